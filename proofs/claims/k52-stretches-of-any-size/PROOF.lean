import PyProof.Rows.All
import Wide.All
import OpenK.AllK
import Wide.FinOn
import HandS.ForMost
import HandS.Wide
import HandS.IsInst
import HandS.SortKw
import HandS.Defaults
import HandS.Zip
import HandS.More
import HandS.HeadHook1
import HandS.HeadHook2
import PyProof.ReprReads
import PyProof.ReprRoads
import HandS.Ends
import HandS.Head0
import HandS.Head1
import HandS.Head2
import HandS.HeadEnd
import HandS.HeadHook3
import HandS.HeadHook4
import HandS.Iter
import PySem.Challenge.RW_cutworks_k52_whole_stretches_of_any_size
set_option Elab.async false
set_option linter.all false
set_option maxRecDepth 100000
set_option maxHeartbeats 4000000
set_option exponentiation.threshold 20000
/-! Rules that this work adds to the hand layer: a list or a tuple read, xs[a:b] = ys, repr of data, promises of defs that run while no repr is under way. -/
namespace My
open PySem PySem.Spec PyProof.Rows L2

/-! ### short names of rules -/
abbrev rAddI : R2 := rI0 fun i j => .int (i + j)
abbrev rSubI : R2 := rI0 fun i j => .int (i - j)
abbrev rMulW : R2 := rI CMulW fun i j => .int (i * j)
abbrev rDivW : R2 := rI CDivW fun i j => .int (i / j)
abbrev rModI : R2 := rI (fun _ j => 0 < j) fun i j => .int (i % j)
abbrev rPowI : R2 := rI CPow fun i j => .int (i ^ j.toNat)
abbrev rNegI : V → Hp → VK → Prop := rU fun i => .int (-i)
abbrev rLtI : R2 := rI0 fun i j => .bl (decide (i < j))
abbrev rLeI : R2 := rI0 fun i j => .bl (decide (i ≤ j))
abbrev rGtI : R2 := rI0 fun i j => .bl (decide (j < i))
abbrev rGeI : R2 := rI0 fun i j => .bl (decide (j ≤ i))
abbrev rIsN1 : R2 := fun x y H Q => y = .non ∧ Q (.bl (decide (x = .non))) H
abbrev rNotN1 : R2 := fun x y H Q => y = .non ∧ Q (.bl (!decide (x = .non))) H
abbrev rAddS : R2 := fun x y H Q => ∃ i j, x = .str i ∧ y = .str j ∧ i.length + j.length ≤ sizeLine ∧ Q (.str (i ++ j)) H
abbrev rLenS (K : PySem.W.Frag) : List V → Hp → VK → Prop := fun xs H Q => ∃ p ys, xs = [.ref p] ∧ (SqL K H p ys ∨ SqT K H p ys) ∧ Q (.int ys.length) H
abbrev rAbsI : List V → Hp → VK → Prop := fun xs H Q => ∃ i, xs = [.int i] ∧ Q (.int (if i < 0 then -i else i)) H
abbrev rMax2 : List V → Hp → VK → Prop := fun xs H Q => ∃ i j, xs = [.int i, .int j] ∧ Q (.int (if j > i then j else i)) H
abbrev rMin2 : List V → Hp → VK → Prop := fun xs H Q => ∃ i j, xs = [.int i, .int j] ∧ Q (.int (if j < i then j else i)) H
abbrev rListS (K : PySem.W.Frag) : List V → Hp → VK → Prop := fun xs H Q => ∃ p ys, xs = [.ref p] ∧ (SqL K H p ys ∨ SqT K H p ys) ∧ ∀ l, H l = none → Q (.ref l) (upd H l (.lst ys))
abbrev rTupS (K : PySem.W.Frag) : List V → Hp → VK → Prop := fun xs H Q => ∃ p ys, xs = [.ref p] ∧ ((SqL K H p ys ∧ ∀ l, H l = none → Q (.ref l) (upd H l (.tup ys))) ∨ (SqT K H p ys ∧ Q (.ref p) H))
abbrev rInsert : V → List V → Hp → VK → Prop := fun x vs H Q => ∃ (l : Addr) (xs : List V) (i : Int) (y : V), x = .ref l ∧ vs = [.int i, y] ∧ H l = some (.lst xs) ∧ xs.length < sizeLine ∧ 0 ≤ i ∧ i < 2 ^ 63 ∧
    Q .non (upd H l (.lst (xs.take i.toNat ++ [y] ++ xs.drop i.toNat)))
abbrev rIxLT (K : PySem.W.Frag) : R2 := fun x y H Q => rIxL K x y H Q ∨ rIxT K x y H Q

section
variable {X : Cx}
theorem ix_lt : IxR X (rIxLT X.K) := ix_list.or ix_tup

/-! ### a walk over a list or a tuple -/
def iOr (a b : TI) : TI := fun σ H R => a σ H R ∨ b σ H R
theorem PI.or {tg e : Expr} {a b : TI} (ha : PI X tg e a) (hb : PI X tg e b) : PI X tg e (iOr a b) :=
  ⟨fun pins s σ H R I h => h.elim (ha.run pins s σ H R I) (hb.run pins s σ H R I)⟩
abbrev iSeq (K : PySem.W.Frag) (t : TE) : TI := iOr (iList K t) (iTup K t)
theorem pi_seq {tg e : Expr} {t : TE} (h : PE X e t) : PI X tg e (iSeq X.K t) := PI.or (pi_list h) (pi_tup h)
end

/-! ### xs[a:b] = ys: ys another list, 0 ≤ a ≤ b, b perhaps beyond the end -/
section
variable {prog : Program} {w : World} {A : Around} {E : Value → Shared → Prop} {s : Shared}
theorem bounds_clip {a c n : Nat} (hac : a ≤ c) (han : a ≤ n) : sliceBounds (some (a : Int)) (some (c : Int)) none n = ((a : Int), ((min c n : Nat) : Int), 1) := by
  by_cases h : c ≤ n
  · rw [L2.bounds_run hac h, Nat.min_eq_left h]
  · have q := L2.slice_bounds (some (a : Int)) (some (c : Int)) n
    have e1 : HT.sIx n 0 (some (a : Int)) = a := by rw [HT.sIx_nat]; omega
    have e2 : HT.sIx n n (some (c : Int)) = min c n := HT.sIx_nat n n c
    rw [e1, e2] at q
    generalize sliceBounds (some (a : Int)) (some (c : Int)) none n = z at q ⊢
    obtain ⟨z1, z2, z3⟩ := z
    simp only at q
    rw [q.1, q.2.1, q.2.2]

/-- list.__setitem__ by a slice of step one, another list's items: the end may lie beyond -/
theorem setItem_clip {l b sl : Addr} {its new : Array Value} {n n2 : Nat} {vl vu : Value} {a c : Nat} {Q : Unit → Shared → Prop}
    (e : s.heap.get? l = some { cls := .type "list", data := .seq its n }) (e2 : s.heap.get? b = some { cls := .type "list", data := .seq new n2 }) (hne : l ≠ b) (hs : s.heap.IsSliceOf sl vl vu .none)
    (pl : IsPart vl (some (a : Int))) (pu : IsPart vu (some (c : Int))) (hac : a ≤ c) (han : a ≤ its.size) (hsz : its.size + new.size ≤ sizeLine)
    (h : Q () { s with heap := s.heap.update l (Obj.mapSeq fun xs => xs.extract 0 a ++ new ++ xs.extract (min c its.size) xs.size) }) : wpAny (model prog w) A (setItem (.ref l) (.ref sl) (.ref b)) Q E s := by
  have tl : s.heap.IsList l its := PySem.IsL.isList e
  have tb : s.heap.IsList b new := PySem.IsL.isList e2
  obtain ⟨o, ho, hc, hd⟩ := id hs
  have tS : s.TypeIs (.ref sl) "slice" := ⟨o, ho, hc⟩
  have k1 : Builtin.List.listSameRef (.ref l) (.ref b) = false := by unfold Builtin.List.listSameRef; exact beq_eq_false_iff_ne.mpr hne
  have k2 : ¬ ((rawPart none == rawInt 0) = true) := Bool.false_ne_true
  have k3 : (max (a : Int) ((min c its.size : Nat) : Int)).toNat = min c its.size := by omega
  have k4 : ((fun xs : Array Value => xs.extract 0 a ++ new ++ xs.extract (min c its.size) xs.size) its).size ≤ sizeLine + 1 := by simp only [Array.size_append, Array.size_extract]; omega
  unfold setItem; try with_reducible refine wpAny_holding ?_
  first | refine wpAny_bind (wpAny_pure ?_) | skip
  refine wpAny_bind (wpAny_sequenceKey tl.typeIs (by decide) (wpAny_bind (wpAny_callSpecial?_slot (name := Str.ofString "__setitem__") tl.typeIs slot_list_setitem (wpAny_call_entry slot_list_setitem tl.typeIs entry_list_setitem ?_ (args_list_setitem _ _ _)))))
  show wpAny _ _ (Builtin.List.listSubscript? (.ref sl) >>= _) _ _ s
  refine wpAny_bind ?_; unfold Builtin.List.listSubscript?
  refine wpAny_bind (wpAny_specialOf tS slice_no_index ?_); simp only [Option.isNone_none, if_true]; refine wpAny_pure ?_
  show wpAny _ _ (typeOf (.ref sl) >>= _) _ _ s
  refine wpAny_bind (wpAny_typeOf tS ?_)
  first | rw [if_neg (by decide)] | refine PySem.W.KFB.if_not (by decide) ?_
  rw [listSliceParts_eq]
  refine wpAny_bind (wpAny_bind (wpAny_field ho hd (x := .none) rfl (wpAny_bind (wpAny_listPart .none ?_)))); rw [if_neg k2]
  refine wpAny_bind (wpAny_field ho hd (x := vl) rfl (wpAny_bind (wpAny_listPart pl (wpAny_bind (wpAny_field ho hd (x := vu) rfl (wpAny_bind (wpAny_listPart pu (wpAny_pure ?_))))))))
  first | simp only [k1, Bool.false_eq_true, if_false] | refine PySem.W.KFB.if_not k1 ?_ | (dsimp only; rw [if_neg (by rw [k1]; exact Bool.false_ne_true)])
  refine wpAny_bind (m := Builtin.List.listAllItems (.ref b) "must assign iterable to extended slice") ?_; unfold Builtin.List.listAllItems
  refine wpAny_bind (wpAny_typeOf tb.typeIs ?_); first | refine PySem.W.KFB.if_so (by decide) ?_ | rw [if_pos (by decide)] | simp only [beq_self_eq_true, Bool.true_or, if_true]
  unfold Builtin.List.listItems
  refine wpAny_bind (wpAny_seqItems e2 rfl (wpAny_pure (wpAny_bind (wpAny_bind (wpAny_seqItems e rfl (wpAny_pure ?_))))))
  refine wpAny_bind (wpAny_of_eq ((sliceIndices_raw (some (a : Int)) (some (c : Int)) none its.size (by simp)).trans (congrArg (pure : Int × Int × Int → Sem (Int × Int × Int)) (bounds_clip hac han))) ?_)
  show wpAny _ _ (if ((1 : Int) == 1) = true then _ else _) _ _ s; rw [if_pos (by decide)]; refine wpAny_bind (wpAny_rule ?_)
  first | simp only [notLongL hsz, Bool.false_eq_true, if_false] | refine PySem.W.KFB.if_not (notLongL hsz) ?_
  first | refine wpAny_bind (wpAny_pure ?_) | skip
  show wpAny _ _ (updateSeq l (fun xs => xs.extract 0 ((a : Int)).toNat ++ new ++ xs.extract (max (a : Int) ((min c its.size : Nat) : Int)).toNat xs.size) >>= _) _ _ s
  rw [k3, Int.toNat_natCast]
  refine wpAny_bind (wpAny_updateSeq (hz := Nat.le_trans (Nat.le_add_right _ _) hsz) (_hz' := k4) e rfl (wpAny_bind (wpAny_letGo ?_)))
  first | exact wpAny_bind (wpAny_pure (wpAny_pure ⟨.none, rfl, wpAny_pure h⟩)) | exact wpAny_pure ⟨.none, rfl, wpAny_pure h⟩
end

section
variable {X : Cx}
/-- .. by values -/
theorem set_clip {pins : List (Addr × Obj)} {s : Shared} {σ : L2.St} {H : Hp} {l b sl : Addr} {xs ys : List V} {a c : Nat} {vl vu : Value} {Q : Unit → Shared → Prop} (I : Inv X pins σ H s) (hH : H l = some (.lst xs)) (hB : H b = some (.lst ys)) (hne : l ≠ b)
    (hs : s.heap.IsSliceOf sl vl vu .none) (pl : IsPart vl (some (a : Int))) (pu : IsPart vu (some (c : Int))) (hac : a ≤ c) (han : a ≤ xs.length) (hz : xs.length + ys.length ≤ sizeLine)
    (h : ∀ s', Inv X pins σ (upd H l (.lst (xs.take a ++ ys ++ xs.drop c))) s' → Q () s') : wpAny (model X.prog X.w) X.A (setItem (.ref l) (.ref sl) (.ref b)) Q X.xe s := by
  obtain ⟨z, its, n, r, hl, e⟩ := I.lstM hH
  obtain ⟨z2, its2, n2, r2, hl2, e2⟩ := I.lstM hB
  refine setItem_clip (a := a) (c := c) e e2 hne hs pl pu hac (by rw [List.size_toArray]; omega) (by rw [List.size_toArray, List.size_toArray]; omega) (h _ ?_)
  have hd : its.drop (min c its.length) = its.drop c := by
    by_cases q : c ≤ its.length
    · rw [Nat.min_eq_left q]
    · rw [Nat.min_eq_right (by omega), List.drop_eq_nil_of_le (Nat.le_refl _), List.drop_eq_nil_of_le (by omega)]
  refine I.lset (its' := its.take a ++ its2 ++ its.drop c) (t' := s.toks) hH e ?_ (Vals.append (Vals.append (r.take _) r2) (r.drop _)) ?_
  · show (its.toArray.extract 0 a ++ its2.toArray ++ its.toArray.extract (min c its.toArray.size) its.toArray.size) = _
    rw [splice_eq its its2 a (min c its.toArray.size), List.size_toArray, hd]
  · simp only [List.length_append, List.length_take, List.length_drop]
    omega
/-- xs[a:c] = e -/
def SetSlW (D : Ends) (σ : L2.St) (v x : V) (oi oj : Option Int) (H4 : Hp) : Prop := ∃ (l b : Addr) (xs ys : List V) (a c : Nat), x = .ref l ∧ v = .ref b ∧ oi = some (a : Int) ∧ oj = some (c : Int) ∧
  H4 l = some (.lst xs) ∧ H4 b = some (.lst ys) ∧ l ≠ b ∧ a ≤ c ∧ a ≤ xs.length ∧ xs.length + ys.length ≤ sizeLine ∧ D.nx σ (upd H4 l (.lst (xs.take a ++ ys ++ xs.drop c)))
def tSetSl (te to tl th : TE) : TS := fun D σ H => te σ H fun v H1 => to σ H1 fun x H2 => tPart tl σ H2 fun i H3 => tPart th σ H3 fun j H4 => SetSlW D σ v x i j H4
theorem ps_setSl {e o lo hi : Expr} {p2 p3 pos : Pos} {te to tl th : TE} (he : PE X e te) (ho : PE X o to) (hl : PE X lo tl) (hh : PE X hi th)
    (h1 : swapsWithSole [.Subscript o (.Slice (some lo) (some hi) none p2) p3] e pos.line X.env = pure false := by rfl) (h2 : swappedStores [.Subscript o (.Slice (some lo) (some hi) none p2) p3] e X.env = pure none := by rfl) :
    PS X (.Assign [.Subscript o (.Slice (some lo) (some hi) none p2) p3] e pos) (tSetSl te to tl th) := by
  refine ⟨fun pins s σ H D I h => ?_⟩
  refine wpAny_Assign_stores (thn (he.run pins s σ H _ I h) fun v s1 ⟨x, H1, I1, r1, q1⟩ => ?_) h1 h2
  have e1 : (assignEach [.Subscript o (.Slice (some lo) (some hi) none p2) p3] X.env).map (·.2) = [assign (.Subscript o (.Slice (some lo) (some hi) none p2) p3) X.env] := rfl
  rw [e1]
  have e2 : assign (.Subscript o (.Slice (some lo) (some hi) none p2) p3) X.env v = (do
      let ov ← holding [v] (eval o X.env)
      let iv ← holding [v, ov] (eval (.Slice (some lo) (some hi) none p2) X.env)
      standAt p3
      holding [v, ov, iv] (setItem ov iv v)
      release [iv, v, ov] []) := rfl
  show wpAny _ _ (assign (.Subscript o (.Slice (some lo) (some hi) none p2) p3) X.env v) _ _ s1
  rw [e2]
  refine wpAny_bind (wpAny_holding (thn (ho.run pins s1 σ H1 _ I1 q1) fun ov s2 ⟨y, H2, I2, r2, q2⟩ => ?_))
  refine wpAny_bind (wpAny_holding (wpAny_Slice ?_))
  refine thn ((po_some hl).run pins s2 σ H2 _ I2 q2) fun vl s3 ⟨oi, H3, I3, pl, q3⟩ => ?_
  refine thn ((po_some hh).run pins s3 σ H3 _ I3 q3) fun vu s4 ⟨oj, H4, I4, pu, q4⟩ => ?_
  rw [evalPart_none]
  refine wpAny_pure ?_
  obtain ⟨l, b, xs, ys, a, c, rfl, rfl, rfl, rfl, hH, hB, hne, hac, han, hz, q⟩ := q4
  cases r2
  cases r1
  have I5 : Inv X pins σ H4 { s4 with heap := s4.heap.push { cls := .type "slice", data := .fields #[vl, vu, .none] } } := I4.kept (t' := s4.toks) fun b ob q => Heap.get?_push_of_some _ q
  refine wpAny_bind (wpAny_standAt (wpAny_bind (wpAny_holding (set_clip I5 hH hB hne (Heap.IsSliceOf.new ..) pl pu hac han hz fun s6 I6 => wpAny_release ⟨σ, _, I6, q⟩))))
end
end My

/-! repr of data, and promises of defs that run while no repr is under way (the model asks who else shows a list). -/
namespace My
open PySem PySem.Spec PyProof.Rows L2

section
variable {X : Cx}
def rReprD (K : PySem.W.Frag) : List V → Hp → VK → Prop := fun xs H Q => ∃ (a : Addr) (d : PyData), xs = [.ref a] ∧ Dp K H (.ref a) d ∧ d.showable = true ∧ d.hasDict = false ∧ d.depth ≤ 60 ∧ d.shown.length ≤ sizeLine ∧ Q (.str d.shown) H
theorem call_reprD (hg : X.A.guards = some []) (hu : X.A.units + 64 < cLine) : CallR X (.builtin "repr") (rReprD X.K) := by
  intro pins s σ H xs us Q I r h
  obtain ⟨a, d, rfl, hd, h1, h2, h3, h4, q⟩ := h
  obtain ⟨u, rfl, ru⟩ := vals1 r
  obtain ⟨as, rd⟩ := Dp.reads I d _ u hd ru
  obtain rfl : u = Value.ref a := ru
  exact repr_of_reads' rd h1 (fun e => by rw [h2] at e; cases e) hg (by omega) (fun _ _ e => e) (fun h' t tk hk => ⟨.str d.shown, H, I.kept (t' := tk) hk, ⟨t, rfl⟩, q⟩) h4
end

/-! ### xs == [], whatever xs holds -/
section
variable {X : Cx}
def rEqNil (K : PySem.W.Frag) : R2 := fun x y H Q => ∃ p q xs, x = .ref p ∧ y = .ref q ∧ SqL K H p xs ∧ SqL K H q [] ∧ Q (.bl xs.isEmpty) H
theorem op_eqNil (hu : X.A.units < cLine) : OpR X (compareOp .Eq) (rEqNil X.K) := by
  intro pins s σ H x y v u Q I rx ry h
  obtain ⟨p, q, xs, rfl, rfl, hp, hq, k⟩ := h
  cases rx
  cases ry
  obtain ⟨its, rv, pl, _⟩ := I.list hp
  obtain ⟨its2, rv2, pl2, _⟩ := I.list hq
  cases rv2
  cases xs with
  | nil =>
    cases rv
    exact SeqAt.eq_listAt (e := fun _ => true) pl.isList pl2.isList rfl hu (fun j h1 _ => absurd h1 (Nat.not_lt_zero j)) ⟨.bl true, H, I, rfl, k⟩
  | cons a r =>
    cases rv with
    | cons r1 r2 => exact SeqAt.eq_list_lengthsAt pl.isList pl2.isList (by simp) hu ⟨.bl false, H, I, rfl, k⟩
end

/-- a promise kept where no repr is under way -/
structure FnOkG (P : Program) (w : World) (K : PySem.W.Frag) (mg : Str → Option Value) (base : Heap) (CX : CXT) (k : Nat) (f : Addr) (fd : FuncData) (ps : List Str) (sp : Sp) : Prop where
  len : ∀ vs H Q E, sp vs H Q E → vs.length = ps.length
  go : ∀ (A : Around), A.guards = some [] → ∀ (outer : List Env) (s : Shared) (H : Hp) (ar : Args) (us : List Value) (vs : List V) (Q : VK) (E : XK), Room k A → Env0 P w K mg base A outer s H → BindsTo s fd ar (ps.zip us) → Vals vs us →
    sp vs H Q E → codeAny (model P w) A (.call (.ref f) ar) (CR CX outer P w H s Q E) s
section
variable {P : Program} {w : World} {K : PySem.W.Frag} {mg : Str → Option Value} {base : Heap}
theorem guards_body {A : Around} {env : Env} (h : A.guards = some []) : (A.deeper env).guards = some [] := h

theorem okG {x qual : Str} {params : Arguments} {body : List Stmt} {scope : Scope} {dvs : List V} {kws : List (Str × V)} {f : Addr} {fd : FuncData} {N ps : List Str} {k : Nat} {sp : Sp} (F : FunD K x qual params body scope dvs kws f fd) (S : FnScope N ps scope)
    (len : ∀ vs H Q E, sp vs H Q E → vs.length = ps.length)
    (hb : ∀ (cdv : Value) (A : Around) (outer : List Env) (s : Shared) (H : Hp) (vs : List V) (Q : VK) (E : XK), Room k (A.deeper (envOfC qual scope s.heap.objs.size f cdv)) → (A.deeper (envOfC qual scope s.heap.objs.size f cdv)).guards = some [] → sp vs H Q E →
      ∃ t, PSs (cxOf CX0 P w K mg base N qual scope f cdv A outer s H E) body t ∧ t { nx := fun _ H' => Q .non H', rt := Q } (start N vs) H) : FnOkG P w K mg base CX0 (k + 1) f fd ps sp := by
  obtain ⟨oc, od, dV, kV, doc, pm, an, cdv, ct, osl, rfl, lk, hcd, _, _⟩ := F.ex
  refine ⟨len, fun A hG outer s H ar us vs Q E hr e0 hbd r hsp => ?_⟩
  have hl := len _ _ _ _ hsp
  have KX : K.In s.heap := e0.mod.kin.keeps fun b o e => (e0.bs b o e).1
  have hk : ∀ y ∈ ps.zip us, scope.names.lookup y.1 = some .local ∨ (scope.names.lookup y.1 = some .cell ∧ ((cellsFrom (s.heap.objs.size + 1) scope.names []).lookup y.1).isSome = true) := by
    rintro ⟨n, v⟩ hy
    exact (S.par n (List.of_mem_zip hy).1).imp id fun q => ⟨q, PySem.W.cellsFrom_some _ _ _ (.inl q)⟩
  refine codeAny_call_function hr.depth (KX _ _ lk) rfl S.co S.gen rfl (PySem.W.codeRec_of KX hcd) (hbd _ _ _ _ (wpAny_newFunctionEnv_cells S.kind hk fun env he s1 z => ?_))
  subst he
  obtain ⟨t, ht, hq⟩ := hb cdv A outer s H vs Q E (hr.deeper _) (guards_body hG) hsp
  have I := inv_start (CX := CX0) (P := P) (w := w) (K := K) (mg := mg) (N := N) (E := E) S hr.hd e0 hl r z
  refine ⟨(e0.mod.nolimit.keeps fun b o e => (e0.bs b o e).1).keeps z.toInCall.keep, codeAny_func (wpAny_mono (ht.run [] s1 _ H _ I hq) (fun fl s' hs => ?_) fun e s' hs => hs)⟩
  cases fl with
  | ret u =>
    obtain ⟨v, _, H', J, rv, q⟩ := hs
    exact (⟨v, H', J.os, J.bare, J.base, J.hok, rv, q⟩ : CE outer P w H s Q u s')
  | next =>
    obtain ⟨_, H', J, q⟩ := hs
    exact (⟨.non, H', J.os, J.bare, J.base, J.hok, rfl, q⟩ : CE outer P w H s Q .none s')
  | brk =>
    obtain ⟨_, _, _, q⟩ := hs
    cases q
  | cont =>
    obtain ⟨_, _, _, q⟩ := hs
    cases q
end
section
variable {X : Cx} {CX : CXT} {k : Nat} {f : Addr} {fd : FuncData} {ps : List Str} {sp : Sp} {dvs : List V} {ds : List Value} {E : XK} {x : Str} {p pos : Pos} {e : Expr} {es : List Expr} {t : TA}
theorem pe_callG (hG : X.A.guards = some []) (F : FnOkG X.prog X.w X.K X.mg X.base CX k f fd ps sp) (hr : Room k X.A) (hg : Gl X x) (hm : X.mg x = some (.ref f)) (hk : PySem.W.keepIn X.K (.ref f) = true) (hb : Binds X.K fd ps ds) (hd : Vals dvs ds)
    (hx : Passes CX X E) (ha : PA X (e :: es) t) (hdb : (x == ("__debug__" : Str)) = false := by decide) (he : starEach (e :: es) X.env = (false, eval e X.env) :: starEach es X.env := by rfl) (hpl : (backTo pos (starEach es X.env)).any (·.1) = false := by rfl) :
    PE X (.Call (.Name x p) (e :: es) [] pos) (tCall sp dvs E t) := by
  refine ⟨fun pins s σ H Q I h => wpAny_Call_Name_kw (ld_glob I hg hm (PySem.W.callWith_K (h₀ := X.base) I.ok.mod.kin hk (thn (ha.run pos pins s σ H _ I h) fun us s1 ⟨vs, H1, I1, r, q⟩ => ⟨I1.kIn, ?_⟩) he hpl) hdb)⟩
  have r2 : Vals (vs ++ dvs) (us ++ ds) := r.append hd
  have hl : (us ++ ds).length = ps.length := by rw [← r2.length]; exact F.len _ _ _ _ q
  refine wpAny_call (codeAny_mono (F.go X.A hG X.stack s1 H1 ⟨us, []⟩ (us ++ ds) (vs ++ dvs) Q E hr I1.env0 (hb s1 us I1.kIn hl) r2 q) fun r s' hq => ?_)
  match r, hq with
  | .error e, hq => exact hx pins σ H1 s1 e s' I1 hq
  | .ok (.ret u), hq => exact I1.after hq
end
end My

/-! A law's end, its def's promise kept where no repr is under way. -/
namespace My
open PySem PySem.Spec PyProof.Rows L2

/-- the law's call from the caller's place, over an abstract heap that tracks the script alone or nothing -/
theorem enterG {P : Program} {w : World} {K : PySem.W.Frag} {mg mb : Str → Option Value} {k : Nat} {fa a : Addr} {fd : FuncData} {x : Str} {sp : Sp} {s1 : Shared} {vs : List Value} {H : Hp}
    (KX : K.In s1.heap) (hns : s1.heap.Ns mainGlobals mg) (hb : s1.heap.Ns builtinsNs mb) (hbb : ∀ x : Str, x ≠ "__name__" → mb x = bootBuiltins x) (hlim : s1.heap.NoLimit) (hg : s1.gens = #[])
    (ha : s1.heap.get? a = some { cls := .type "list", data := .seq vs.toArray }) (hr : Room k callerA)
    (F : ∀ base : Heap, K.In base → base.Ns mainGlobals mg → FnOkG P w K mg base CX0 k fa fd [x] sp) (hbind : ∀ (s : Shared) (u : Value), BindsTo s fd ⟨[u], []⟩ [(x, u)])
    (hO : Only H) (hok : HOk P w H s1.heap) (hA : ∀ b, H b ≠ none → b = a) (hK : H a ≠ none → K.lookup a = none) (hsp : sp [.ref a] H (fun v _ => v = .bl true) fun _ _ _ => False) :
    codeAny (model P w) callerA (.call (.ref fa) ⟨[.ref a], []⟩) (fun r s' => r = .ok (.ret (.bool true)) ∧ OldK s1.heap s'.heap ∧ s'.os = s1.os ∧ AllBare s'.gens) s1 := by
  have free : ∀ {b : Addr}, b ≠ a → H b = none := fun {b} h => Classical.byContradiction fun z => h (hA b z)
  have ns : ∀ {b : Addr} {m : Str → Option Value}, s1.heap.Ns b m → (hidT s1.heap H).Ns b m := by
    rintro b m ⟨o, es, ep, e, d, r⟩
    refine ⟨o, es, ep, hidT_get e (free fun z => ?_), d, r⟩
    rw [z, ha] at e
    cases e
    cases d
  have kb : K.In (hidT s1.heap H) := fun b o e => hidT_get (KX b o e) (Classical.byContradiction fun z => by
    have q := hA b z
    subst q
    rw [hK z] at e
    cases e)
  have M : Mod K mg (hidT s1.heap H) := ⟨kb, ns hns, ⟨mb, ns hb, hbb⟩, hlim.imp fun m h => ⟨ns h.1, h.2⟩⟩
  have e0 : Env0 P w K mg (hidT s1.heap H) callerA [] s1 H := ⟨rfl, M, fun _ _ e => of_hidT e, Nat.le_of_eq (hidT_size _ _), trivial, fun b hb => (List.not_mem_nil (show b ∈ ([] : List Addr) from hb)).elim, hok, .of_eq hg⟩
  refine codeAny_mono ((F _ kb (ns hns)).go callerA rfl [] s1 H _ [.ref a] [.ref a] _ _ hr e0 (hbind s1 (.ref a)) (.cons rfl .nil) hsp) fun r s' h => ?_
  match r, h with
  | .error e, h => exact h.elim
  | .ok (.ret u), h =>
    obtain ⟨v, H', os, bare, un, hok', rv, rfl⟩ := h
    cases rv
    refine ⟨rfl, OldK.of_keep fun b o e => ?_, os, bare⟩
    rcases hO b with z | ⟨ob, xs, z⟩
    · exact un.keep b o e z (List.not_mem_nil) (List.not_mem_nil)
    · have y1 := (hok b _ z).1
      have y2 := (hok' b _ (un.frzs b ob _ z)).1
      rw [e] at y1
      cases y1
      exact y2

theorem callG {P : Program} {w : World} {K : PySem.W.Frag} {mg mb : Str → Option Value} {k : Nat} {fa a : Addr} {fd : FuncData} {x : Str} {sp : Sp} {s1 : Shared} {vs : List Value} {ns : List Int}
    (KX : K.In s1.heap) (hns : s1.heap.Ns mainGlobals mg) (hb : s1.heap.Ns builtinsNs mb) (hbb : ∀ x : Str, x ≠ "__name__" → mb x = bootBuiltins x) (hlim : s1.heap.NoLimit) (hg : s1.gens = #[])
    (ha : s1.heap.get? a = some { cls := .type "list", data := .seq vs.toArray }) (hi : IntsAre vs ns) (hl : ns.length ≤ sizeLine) (hr : Room k callerA)
    (F : ∀ base : Heap, K.In base → base.Ns mainGlobals mg → FnOkG P w K mg base CX0 k fa fd [x] sp) (hbind : ∀ (s : Shared) (u : Value), BindsTo s fd ⟨[u], []⟩ [(x, u)])
    (hsp : ∀ H : Hp, Only H → SqL K H a (ns.map V.int) → sp [.ref a] H (fun v _ => v = .bl true) fun _ _ _ => False) :
    codeAny (model P w) callerA (.call (.ref fa) ⟨[.ref a], []⟩) (fun r s' => r = .ok (.ret (.bool true)) ∧ OldK s1.heap s'.heap ∧ s'.os = s1.os ∧ AllBare s'.gens) s1 := by
  have rv := vals_ints hi
  cases hk : K.lookup a with
  | some o =>
    have e := KX a o hk
    rw [ha] at e
    cases e
    have hO : Only (fun _ => none) := fun _ => .inl rfl
    exact enterG KX hns hb hbb hlim hg ha hr F hbind hO (fun b u z => nomatch (show (none : Option HO) = some u from z)) (fun b z => (z rfl).elim) (fun z => (z rfl).elim)
      (hsp _ hO (.inr ⟨_, vs.toArray, _, hk, rfl, rfl, rfl, by rw [List.size_toArray, hi.length]; exact hl, by simpa using rv⟩))
  | none =>
    let o : Obj := { cls := .type "list", data := .seq vs.toArray }
    let H : Hp := fun b => if b = a then some (.frz o (.lst (ns.map V.int))) else none
    have ya : H a = some (.frz o (.lst (ns.map V.int))) := if_pos rfl
    have yn : ∀ {b}, b ≠ a → H b = none := fun h => if_neg h
    have hO : Only H := fun b => (Classical.em (b = a)).elim (fun e => .inr ⟨o, _, e ▸ ya⟩) fun e => .inl (yn e)
    refine enterG KX hns hb hbb hlim hg ha hr F hbind hO (fun b u z => ?_) (fun b z => Classical.byContradiction fun q => z (yn q)) (fun _ => hk) (hsp _ hO (.inl (.inr ⟨o, ya⟩)))
    have q : b = a := Classical.byContradiction fun q => by rw [yn q] at z; cases z
    subst q
    rw [ya] at z
    cases z
    exact ⟨ha, by rw [List.length_map]; exact hl, vs, _, rv, ha⟩

theorem walkG {l : PySem.W.OpenLaw} {n k : Nat} {q : Program} {loose : List Str} {XP : (Str → Option Value) → Heap → Prop} {YP : World → Heap → Prop} {d : DefRec} {x : Str} (hn : l.most = some n) (hn2 : n ≤ sizeLine) (hdf : d.params.defaults = []) (hr : Room k callerA)
    (F : ∀ (w : World) (mg : Str → Option Value) (fa : Addr) (h : Heap), YP w h → h.Ns mainGlobals mg → mg d.name = some (.ref fa) →
      ∃ (K : PySem.W.Frag) (fd : FuncData) (sp : Sp), K.In h ∧ (∀ (s : Shared) (u : Value), BindsTo s fd ⟨[u], []⟩ [(x, u)]) ∧
        (∀ (H : Hp) (a : Addr) (ns : List Int), ns.length ≤ n → Only H → SqL K H a (ns.map V.int) → sp [.ref a] H (fun v _ => v = .bl true) fun _ _ _ => False) ∧
        ∀ base : Heap, K.In base → base.Ns mainGlobals mg → FnOkG l.prog w K mg base CX0 k fa fd [x] sp) :
    PySem.W.WalkO q loose XP YP l.row.toRowW d [] (fun f vs => PySem.call f vs) :=
  Att.attach_call hn hdf fun w s₀ s₁ mg mb fa o pm cd doc a vs ns G Y ho hd hcd hmg hobj hints hlen hg =>
    let ⟨_, _, _, KX, hb, hsp, hF⟩ := F w mg fa _ Y G.T.g hmg
    callG KX G.T.g G.T.b G.T.builtins G.T.nolimit hg hobj hints (Nat.le_trans hlen hn2) hr hF hb fun H hO hS => hsp H a ns hlen hO hS
end My

/-! Data over the abstract heap. G: the part of the heap that never changes again; H: the heap. A reading that only makes new things: EvT. -/
namespace My
open PySem PySem.Spec PyProof.Rows L2

abbrev SS := L2.St
/-- what may change on the way: the addresses of M, and new things -/
structure Grow (M : Addr → Prop) (G H G' H' : Hp) : Prop where
  g : Same G G'
  h : ∀ a o, ¬ M a → H a = some o → H' a = some o
  s : Same G' H'
  n : ∀ a, G a = none → H a ≠ none → G' a = none
  t : ∀ a, H a ≠ none → H' a ≠ none
abbrev NoM : Addr → Prop := fun _ => False
theorem Same.none {G H : Hp} (s : Same G H) {a : Addr} (h : H a = none) : G a = none := Same.free s h
section
variable {M : Addr → Prop} {G H G1 H1 G2 H2 : Hp} {p : Addr} {o : HO}
theorem Grow.refl (s : Same G H) : Grow M G H G H := ⟨Same.refl _, fun _ _ _ e => e, s, fun _ e _ => e, fun _ e => e⟩
theorem Grow.trans (a : Grow M G H G1 H1) (b : Grow M G1 H1 G2 H2) : Grow M G H G2 H2 :=
  ⟨a.g.trans b.g, fun x o hm e => b.h x o hm (a.h x o hm e), b.s, fun x e1 e2 => b.n x (a.n x e1 e2) (a.t x e2), fun x e => b.t x (a.t x e)⟩
theorem Grow.weak {M' : Addr → Prop} (a : Grow M G H G1 H1) (h : ∀ x, M x → M' x) : Grow M' G H G1 H1 := ⟨a.g, fun x o hm e => a.h x o (fun z => hm (h x z)) e, a.s, a.n, a.t⟩
theorem Grow.up (a : Grow NoM G H G1 H1) : Grow M G H G1 H1 := a.weak fun _ z => z.elim
theorem Grow.hh (a : Grow NoM G H G1 H1) : Same H H1 := fun x o e => a.h x o (fun z => z) e
theorem Grow.new (a : Grow M G H G1 H1) (h : H1 p = none) : H p = none := Classical.byContradiction fun z => a.t p z h
theorem Grow.ga (a : Grow M G H G1 H1) (h : H1 p = none) : G1 p = none := Same.none a.s h
theorem ne_none_of {H : Hp} {a : Addr} {o : HO} (h : H a = some o) : H a ≠ none := fun e => by rw [h] at e; cases e
/-- a new thing that never changes -/
theorem Grow.alloc (a : Grow M G H G1 H1) (h : H1 p = none) : Grow M G H (upd G1 p o) (upd H1 p o) := by
  have h0 := a.new h
  have e1 : G1 p = none := a.ga h
  refine ⟨fun x u e => ?_, fun x u hm e => ?_, fun x u e => ?_, fun x e1 e2 => ?_, fun x e => ?_⟩
  · have := a.g x u e
    rw [upd_ne (ne_of_none this e1)]
    exact this
  · have := a.h x u hm e
    rw [upd_ne (ne_of_none this h)]
    exact this
  · by_cases q : x = p
    · subst q; rw [upd_same] at e ⊢; exact e
    · rw [upd_ne q] at e ⊢; exact a.s x u e
  · have q : x ≠ p := fun z => by subst z; exact e2 h0
    rw [upd_ne q]
    exact a.n x e1 e2
  · by_cases q : x = p
    · subst q; rw [upd_same]; exact fun z => by cases z
    · rw [upd_ne q]; exact a.t x e
/-- a new thing that will change -/
theorem Grow.made (a : Grow M G H G1 H1) (h : H1 p = none) : Grow M G H G1 (upd H1 p o) := by
  have h0 := a.new h
  refine ⟨a.g, fun x u hm e => ?_, fun x u e => ?_, a.n, fun x e => ?_⟩
  · have := a.h x u hm e
    rw [upd_ne (ne_of_none this h)]
    exact this
  · rw [upd_ne (ne_of_none (a.s x u e) h)]
    exact a.s x u e
  · by_cases q : x = p
    · subst q; rw [upd_same]; exact fun z => by cases z
    · rw [upd_ne q]; exact a.t x e
/-- a thing that was not there at the start changes -/
theorem Grow.mut (a : Grow M G H G1 H1) (h : H p = none) (hg : G1 p = none) : Grow M G H G1 (upd H1 p o) := by
  refine ⟨a.g, fun x u hm e => ?_, fun x u e => ?_, a.n, fun x e => ?_⟩
  · rw [upd_ne (ne_of_none e h)]
    exact a.h x u hm e
  · rw [upd_ne (ne_of_none e hg)]
    exact a.s x u e
  · by_cases q : x = p
    · subst q; rw [upd_same]; exact fun z => by cases z
    · rw [upd_ne q]; exact a.t x e
/-- .. or one of M -/
theorem Grow.mutM (a : Grow M G H G1 H1) (h : M p) (hg : G1 p = none) : Grow M G H G1 (upd H1 p o) := by
  refine ⟨a.g, fun x u hm e => ?_, fun x u e => ?_, a.n, fun x e => ?_⟩
  · rw [upd_ne (fun z => hm (by rw [z]; exact h))]
    exact a.h x u hm e
  · rw [upd_ne (ne_of_none e hg)]
    exact a.s x u e
  · by_cases q : x = p
    · subst q; rw [upd_same]; exact fun z => by cases z
    · rw [upd_ne q]; exact a.t x e
/-- it changes no more -/
theorem Grow.freeze (a : Grow M G H G1 H1) (h : H p = none) (hg : G1 p = none) (hp : H1 p = some o) : Grow M G H (upd G1 p o) H1 := by
  refine ⟨fun x u e => ?_, a.h, fun x u e => ?_, fun x e1 e2 => ?_, a.t⟩
  · have := a.g x u e
    rw [upd_ne (ne_of_none this hg)]
    exact this
  · by_cases q : x = p
    · subst q; rw [upd_same] at e; cases e; exact hp
    · rw [upd_ne q] at e; exact a.s x u e
  · have q : x ≠ p := fun z => by subst z; exact e2 h
    rw [upd_ne q]
    exact a.n x e1 e2
theorem same_upd {G : Hp} (h : G p = none) : Same G (upd G p o) := fun x u e => by rw [upd_ne (ne_of_none e h)]; exact e
end

/-! ### kinds of data -/
structure Ty (α : Type) where
  rel : α → V → Hp → Prop
  mono : ∀ {x : α} {v : V} {G G' : Hp}, Same G G' → rel x v G → rel x v G'
def tInt : Ty Int := ⟨fun i v _ => v = .int i, fun _ h => h⟩
def tNat : Ty Nat := ⟨fun i v _ => v = .int (i : Int), fun _ h => h⟩
def tBool : Ty Bool := ⟨fun b v _ => v = .bl b, fun _ h => h⟩
def tUnit : Ty Unit := ⟨fun _ v _ => v = .non, fun _ h => h⟩
def tVal : Ty V := ⟨fun x v _ => v = x, fun _ h => h⟩
def tOpt {α : Type} (T : Ty α) : Ty (Option α) := ⟨fun o v G => match o with
  | none => v = .non
  | some x => v ≠ .non ∧ T.rel x v G, fun {o v G G'} s h => match o, h with
  | none, h => h
  | some _, h => ⟨h.1, T.mono s h.2⟩⟩
theorem sqt_mono {K : PySem.W.Frag} {G G' : Hp} {p : Addr} {xs : List V} (s : Same G G') (h : SqT K G p xs) : SqT K G' p xs := by
  rcases h with h | h
  · exact .inl (h.imp (s p _) fun ⟨o, e⟩ => ⟨o, s p _ e⟩)
  · exact .inr h
theorem sql_mono {K : PySem.W.Frag} {G G' : Hp} {p : Addr} {xs : List V} (s : Same G G') (h : SqL K G p xs) : SqL K G' p xs := by
  rcases h with h | h
  · exact .inl (h.imp (s p _) fun ⟨o, e⟩ => ⟨o, s p _ e⟩)
  · exact .inr h
/-- the values stand for the things, one by one -/
def Fits {α : Type} (T : Ty α) : List V → List α → Hp → Prop
  | [], [], _ => True
  | v :: vs, x :: xs, G => T.rel x v G ∧ Fits T vs xs G
  | _, _, _ => False
section
variable {α : Type} {T : Ty α}
theorem Fits.mono : ∀ {vs : List V} {xs : List α} {G G' : Hp}, Same G G' → Fits T vs xs G → Fits T vs xs G'
  | [], [], _, _, _, _ => True.intro
  | _ :: _, _ :: _, _, _, s, h => ⟨T.mono s h.1, Fits.mono s h.2⟩
  | [], _ :: _, _, _, _, h => h.elim
  | _ :: _, [], _, _, _, h => h.elim
theorem Fits.length : ∀ {vs : List V} {xs : List α} {G : Hp}, Fits T vs xs G → vs.length = xs.length
  | [], [], _, _ => rfl
  | _ :: _, _ :: _, _, h => by simp only [List.length_cons, Fits.length h.2]
  | [], _ :: _, _, h => h.elim
  | _ :: _, [], _, h => h.elim
theorem Fits.get : ∀ {vs : List V} {xs : List α} {G : Hp} {i : Nat} {x : α}, Fits T vs xs G → xs[i]? = some x → ∃ v, vs[i]? = some v ∧ T.rel x v G
  | [], [], _, _, _, _, e => by simp at e
  | v :: vs, y :: ys, _, 0, x, h, e => by simp at e; subst e; exact ⟨v, rfl, h.1⟩
  | v :: vs, y :: ys, _, i + 1, x, h, e => by
    obtain ⟨w, e1, e2⟩ := Fits.get (i := i) (x := x) h.2 (by simpa using e)
    exact ⟨w, by simpa using e1, e2⟩
  | [], _ :: _, _, _, _, h, _ => h.elim
  | _ :: _, [], _, _, _, h, _ => h.elim
theorem Fits.getV : ∀ {vs : List V} {xs : List α} {G : Hp} {i : Nat} {v : V}, Fits T vs xs G → vs[i]? = some v → ∃ x, xs[i]? = some x ∧ T.rel x v G
  | [], [], _, _, _, _, e => by simp at e
  | v :: vs, y :: ys, _, 0, x, h, e => by simp at e; subst e; exact ⟨y, rfl, h.1⟩
  | v :: vs, y :: ys, _, i + 1, x, h, e => by
    obtain ⟨w, e1, e2⟩ := Fits.getV (i := i) (v := x) h.2 (by simpa using e)
    exact ⟨w, by simpa using e1, e2⟩
  | [], _ :: _, _, _, _, h, _ => h.elim
  | _ :: _, [], _, _, _, h, _ => h.elim
theorem Fits.append : ∀ {vs ws : List V} {xs ys : List α} {G : Hp}, Fits T vs xs G → Fits T ws ys G → Fits T (vs ++ ws) (xs ++ ys) G
  | [], _, [], _, _, _, k => k
  | _ :: _, _, _ :: _, _, _, h, k => ⟨h.1, Fits.append h.2 k⟩
  | [], _, _ :: _, _, _, h, _ => h.elim
  | _ :: _, _, [], _, _, h, _ => h.elim
theorem Fits.one {v : V} {x : α} {G : Hp} (h : T.rel x v G) : Fits T [v] [x] G := ⟨h, True.intro⟩
theorem Fits.take : ∀ {vs : List V} {xs : List α} {G : Hp} (n : Nat), Fits T vs xs G → Fits T (vs.take n) (xs.take n) G
  | [], [], _, n, _ => by simp [Fits]
  | _ :: _, _ :: _, _, 0, _ => True.intro
  | _ :: _, _ :: _, _, n + 1, h => ⟨h.1, Fits.take n h.2⟩
  | [], _ :: _, _, _, h => h.elim
  | _ :: _, [], _, _, h => h.elim
theorem Fits.drop : ∀ {vs : List V} {xs : List α} {G : Hp} (n : Nat), Fits T vs xs G → Fits T (vs.drop n) (xs.drop n) G
  | [], [], _, n, _ => by simp [Fits]
  | _ :: _, _ :: _, _, 0, h => h
  | _ :: _, _ :: _, _, n + 1, h => Fits.drop n h.2
  | [], _ :: _, _, _, h => h.elim
  | _ :: _, [], _, _, h => h.elim
theorem Fits.set : ∀ {vs : List V} {xs : List α} {G : Hp} (n : Nat) {v : V} {x : α}, Fits T vs xs G → T.rel x v G → Fits T (vs.set n v) (xs.set n x) G
  | [], [], _, _, _, _, _, _ => True.intro
  | _ :: _, _ :: _, _, 0, _, _, h, k => ⟨k, h.2⟩
  | _ :: _, _ :: _, _, n + 1, _, _, h, k => ⟨h.1, Fits.set n h.2 k⟩
  | [], _ :: _, _, _, _, _, h, _ => h.elim
  | _ :: _, [], _, _, _, _, h, _ => h.elim
theorem Fits.eraseIdx : ∀ {vs : List V} {xs : List α} {G : Hp} (n : Nat), Fits T vs xs G → Fits T (vs.eraseIdx n) (xs.eraseIdx n) G
  | [], [], _, _, _ => True.intro
  | _ :: _, _ :: _, _, 0, h => h.2
  | _ :: _, _ :: _, _, n + 1, h => ⟨h.1, Fits.eraseIdx n h.2⟩
  | [], _ :: _, _, _, h => h.elim
  | _ :: _, [], _, _, h => h.elim
theorem fits_ints : ∀ {ns : List Int} {G : Hp}, Fits tInt (ns.map V.int) ns G
  | [], _ => True.intro
  | _ :: _, _ => ⟨rfl, fits_ints⟩
theorem Fits.ints : ∀ {vs : List V} {ns : List Int} {G : Hp}, Fits tInt vs ns G → vs = ns.map V.int
  | [], [], _, _ => rfl
  | v :: vs, n :: ns, _, h => by rw [show v = V.int n from h.1, Fits.ints h.2]; rfl
  | [], _ :: _, _, h => h.elim
  | _ :: _, [], _, h => h.elim
end
/-- a list that never changes again -/
def tLs {α : Type} (T : Ty α) : Ty (List α) := ⟨fun xs v G => ∃ p vs, v = .ref p ∧ G p = some (.lst vs) ∧ Fits T vs xs G, fun s ⟨p, vs, e, h, f⟩ => ⟨p, vs, e, s p _ h, f.mono s⟩⟩
/-- a tuple of things of one kind -/
def tTp {α : Type} (K : PySem.W.Frag) (T : Ty α) : Ty (List α) := ⟨fun xs v G => ∃ p vs, v = .ref p ∧ SqT K G p vs ∧ Fits T vs xs G, fun s ⟨p, vs, e, h, f⟩ => ⟨p, vs, e, sqt_mono s h, f.mono s⟩⟩
/-- a fraction in lowest terms -/
def tFr (K : PySem.W.Frag) : Ty Rat := ⟨fun q v G => ∃ p, v = .ref p ∧ SqT K G p [.int q.num, .int (q.den : Int)], fun s ⟨p, e, h⟩ => ⟨p, e, sqt_mono s h⟩⟩

/-! ### readings that only make new things -/
section
variable {M : Addr → Prop} {α β γ δ : Type} {σ : SS} {G H : Hp} {K : PySem.W.Frag}
def EvT (M : Addr → Prop) (te : TE) (σ : SS) (G H : Hp) (T : Ty α) (x : α) : Prop := ∀ G1 H1, Grow M G H G1 H1 → ∀ Q : VK, (∀ v G2 H2, Grow NoM G1 H1 G2 H2 → T.rel x v G2 → Q v H2) → te σ H1 Q
def EvB (M : Addr → Prop) (tt : TT) (σ : SS) (G H : Hp) (b : Bool) : Prop := ∀ G1 H1, Grow M G H G1 H1 → ∀ Q : Bool → Hp → Prop, (∀ G2 H2, Grow NoM G1 H1 G2 H2 → Q b H2) → tt σ H1 Q
def EvO (M : Addr → Prop) (to : TO) (σ : SS) (G H : Hp) (o : Option Int) : Prop := ∀ G1 H1, Grow M G H G1 H1 → ∀ Q : Option Int → Hp → Prop, (∀ G2 H2, Grow NoM G1 H1 G2 H2 → Q o H2) → to σ H1 Q
theorem EvT.mono {te : TE} {T : Ty α} {x : α} {G1 H1 : Hp} (h : EvT M te σ G H T x) (g : Grow M G H G1 H1) : EvT M te σ G1 H1 T x := fun G2 H2 a => h G2 H2 (g.trans a)
theorem EvB.mono {te : TT} {b : Bool} {G1 H1 : Hp} (h : EvB M te σ G H b) (g : Grow M G H G1 H1) : EvB M te σ G1 H1 b := fun G2 H2 a => h G2 H2 (g.trans a)
theorem EvT.is {te : TE} {T : Ty α} {x y : α} (h : EvT M te σ G H T x) (e : x = y) : EvT M te σ G H T y := e ▸ h
theorem EvB.is {te : TT} {a b : Bool} (h : EvB M te σ G H a) (e : a = b) : EvB M te σ G H b := e ▸ h
theorem EvT.go {te : TE} {T : Ty α} {x : α} {Q : VK} (h : EvT M te σ G H T x) (s : Same G H) (k : ∀ v G2 H2, Grow NoM G H G2 H2 → T.rel x v G2 → Q v H2) : te σ H Q := h G H (Grow.refl s) Q k
theorem EvB.go {te : TT} {b : Bool} {Q : Bool → Hp → Prop} (h : EvB M te σ G H b) (s : Same G H) (k : ∀ G2 H2, Grow NoM G H G2 H2 → Q b H2) : te σ H Q := h G H (Grow.refl s) Q k

theorem ev_var {i : Nat} {T : Ty α} {x : α} {v : V} (h : σ[i]? = some (some v)) (r : T.rel x v G) : EvT M (tVar i) σ G H T x := fun G1 H1 g Q k => ⟨v, h, k v G1 H1 (Grow.refl g.s) (T.mono g.g r)⟩
theorem ev_c {T : Ty α} {x : α} {v : V} (r : T.rel x v G) : EvT M (tC v) σ G H T x := fun G1 H1 g Q k => k v G1 H1 (Grow.refl g.s) (T.mono g.g r)
theorem ev_int {i : Int} : EvT M (tC (.int i)) σ G H tInt i := ev_c rfl
theorem ev_bl {b : Bool} : EvT M (tC (.bl b)) σ G H tBool b := ev_c rfl
/-- two operands, then an operation on values -/
theorem ev_op {ta tb : TE} {T : Ty α} {S : Ty β} {U : Ty γ} {x : α} {y : β} {z : γ} {r : R2} (ha : EvT M ta σ G H T x) (hb : EvT M tb σ G H S y)
    (hr : ∀ v w G1 H1, Same G1 H1 → Same G G1 → T.rel x v G1 → S.rel y w G1 → ∀ Q : VK, (∀ u G2 H2, Grow NoM G1 H1 G2 H2 → U.rel z u G2 → Q u H2) → r v w H1 Q) : EvT M (tOp r ta tb) σ G H U z :=
  fun G1 H1 g Q k => ha G1 H1 g _ fun v G2 H2 g2 r2 => hb G2 H2 (g.trans g2.up) _ fun w G3 H3 g3 r3 => hr v w G3 H3 g3.s ((g.g.trans g2.g).trans g3.g) (T.mono g3.g r2) r3 Q fun u G4 H4 g4 r4 => k u G4 H4 ((g2.trans g3).trans g4) r4
theorem ev_II {ta tb : TE} {i j : Int} {U : Ty γ} {z : γ} {r : R2} (ha : EvT M ta σ G H tInt i) (hb : EvT M tb σ G H tInt j) (hr : ∀ (H1 : Hp) (Q : VK), (∀ u, (∀ G, U.rel z u G) → Q u H1) → r (.int i) (.int j) H1 Q) : EvT M (tOp r ta tb) σ G H U z :=
  ev_op ha hb fun v w G1 H1 s sg r1 r2 Q k => by
    rw [show v = V.int i from r1, show w = V.int j from r2]
    exact hr H1 Q fun u hu => k u G1 H1 (Grow.refl s) (hu G1)
theorem ev_add {ta tb : TE} {i j : Int} (ha : EvT M ta σ G H tInt i) (hb : EvT M tb σ G H tInt j) : EvT M (tOp rAddI ta tb) σ G H tInt (i + j) := ev_II ha hb fun H1 Q k => ⟨i, j, rfl, rfl, k _ fun _ => rfl⟩
theorem ev_sub {ta tb : TE} {i j : Int} (ha : EvT M ta σ G H tInt i) (hb : EvT M tb σ G H tInt j) : EvT M (tOp rSubI ta tb) σ G H tInt (i - j) := ev_II ha hb fun H1 Q k => ⟨i, j, rfl, rfl, k _ fun _ => rfl⟩
theorem ev_mul {ta tb : TE} {i j : Int} (hc : CMulW i j) (ha : EvT M ta σ G H tInt i) (hb : EvT M tb σ G H tInt j) : EvT M (tOp rMulW ta tb) σ G H tInt (i * j) := ev_II ha hb fun H1 Q k => ⟨i, j, rfl, rfl, hc, k _ fun _ => rfl⟩
theorem ev_div {ta tb : TE} {i j : Int} (hc : CDivW i j) (ha : EvT M ta σ G H tInt i) (hb : EvT M tb σ G H tInt j) : EvT M (tOp rDivW ta tb) σ G H tInt (i / j) := ev_II ha hb fun H1 Q k => ⟨i, j, rfl, rfl, hc, k _ fun _ => rfl⟩
theorem ev_mod {ta tb : TE} {i j : Int} (hc : 0 < j) (ha : EvT M ta σ G H tInt i) (hb : EvT M tb σ G H tInt j) : EvT M (tOp rModI ta tb) σ G H tInt (i % j) := ev_II ha hb fun H1 Q k => ⟨i, j, rfl, rfl, hc, k _ fun _ => rfl⟩
theorem ev_pow {ta tb : TE} {i j : Int} (hc : CPow i j) (ha : EvT M ta σ G H tInt i) (hb : EvT M tb σ G H tInt j) : EvT M (tOp rPowI ta tb) σ G H tInt (i ^ j.toNat) := ev_II ha hb fun H1 Q k => ⟨i, j, rfl, rfl, hc, k _ fun _ => rfl⟩
theorem ev_lt {ta tb : TE} {i j : Int} (ha : EvT M ta σ G H tInt i) (hb : EvT M tb σ G H tInt j) : EvT M (tOp rLtI ta tb) σ G H tBool (decide (i < j)) := ev_II ha hb fun H1 Q k => ⟨i, j, rfl, rfl, k _ fun _ => rfl⟩
theorem ev_le {ta tb : TE} {i j : Int} (ha : EvT M ta σ G H tInt i) (hb : EvT M tb σ G H tInt j) : EvT M (tOp rLeI ta tb) σ G H tBool (decide (i ≤ j)) := ev_II ha hb fun H1 Q k => ⟨i, j, rfl, rfl, k _ fun _ => rfl⟩
theorem ev_gt {ta tb : TE} {i j : Int} (ha : EvT M ta σ G H tInt i) (hb : EvT M tb σ G H tInt j) : EvT M (tOp rGtI ta tb) σ G H tBool (decide (j < i)) := ev_II ha hb fun H1 Q k => ⟨i, j, rfl, rfl, k _ fun _ => rfl⟩
theorem ev_ge {ta tb : TE} {i j : Int} (ha : EvT M ta σ G H tInt i) (hb : EvT M tb σ G H tInt j) : EvT M (tOp rGeI ta tb) σ G H tBool (decide (j ≤ i)) := ev_II ha hb fun H1 Q k => ⟨i, j, rfl, rfl, k _ fun _ => rfl⟩
theorem ev_eqI {ta tb : TE} {i j : Int} (ha : EvT M ta σ G H tInt i) (hb : EvT M tb σ G H tInt j) : EvT M (tOp rEq ta tb) σ G H tBool (decide (i = j)) := ev_II ha hb fun H1 Q k => ⟨rfl, k _ fun _ => congrArg V.bl (decide_eq_decide.mpr (by simp))⟩
theorem ev_neI {ta tb : TE} {i j : Int} (ha : EvT M ta σ G H tInt i) (hb : EvT M tb σ G H tInt j) : EvT M (tOp rNe ta tb) σ G H tBool (!decide (i = j)) := ev_II ha hb fun H1 Q k => ⟨rfl, k _ fun _ => congrArg V.bl (congrArg not (decide_eq_decide.mpr (by simp)))⟩
theorem ev_neg {ta : TE} {i : Int} (ha : EvT M ta σ G H tInt i) : EvT M (tUn rNegI ta) σ G H tInt (-i) := fun G1 H1 g Q k => ha G1 H1 g _ fun v G2 H2 g2 r2 => ⟨i, r2, k _ G2 H2 g2 rfl⟩
/-- x is None, x is not None -/
theorem ev_isN {ta : TE} {T : Ty α} {o : Option α} (ha : EvT M ta σ G H (tOpt T) o) : EvT M (tOp rIsN1 ta (tC .non)) σ G H tBool o.isNone := fun G1 H1 g Q k => ha G1 H1 g _ fun v G2 H2 g2 r2 => ⟨rfl, k _ G2 H2 g2 (by
  cases o with
  | none => show V.bl _ = V.bl _; rw [show v = V.non from r2]; rfl
  | some x => show V.bl _ = V.bl _; rw [decide_eq_false r2.1]; rfl)⟩
theorem ev_notN {ta : TE} {T : Ty α} {o : Option α} (ha : EvT M ta σ G H (tOpt T) o) : EvT M (tOp rNotN1 ta (tC .non)) σ G H tBool o.isSome := fun G1 H1 g Q k => ha G1 H1 g _ fun v G2 H2 g2 r2 => ⟨rfl, k _ G2 H2 g2 (by
  cases o with
  | none => show V.bl _ = V.bl _; rw [show v = V.non from r2]; rfl
  | some x => show V.bl _ = V.bl _; rw [decide_eq_false r2.1]; rfl)⟩
/-- tests -/
theorem eb_test {te : TE} {b : Bool} (h : EvT M te σ G H tBool b) : EvB M (tTest te) σ G H b := fun G1 H1 g Q k => h G1 H1 g _ fun v G2 H2 g2 r2 => ⟨b, r2, k G2 H2 g2⟩
theorem eb_B {te : TE} {b : Bool} (h : EvT M te σ G H tBool b) : EvB M (tB te) σ G H b := fun G1 H1 g Q k => h G1 H1 g _ fun v G2 H2 g2 r2 => ⟨b, r2, k G2 H2 g2⟩
theorem eb_yes : EvB M tYes σ G H true := fun G1 H1 g Q k => k G1 H1 (Grow.refl g.s)
theorem eb_not {t : TT} {b : Bool} (h : EvB M t σ G H b) : EvB M (tNot t) σ G H (!b) := fun G1 H1 g Q k => h G1 H1 g _ fun G2 H2 g2 => k G2 H2 g2
theorem eb_and {t u : TT} {a b : Bool} (h1 : EvB M t σ G H a) (h2 : a = true → EvB M u σ G H b) : EvB M (tAnd t u) σ G H (a && b) := fun G1 H1 g Q k => h1 G1 H1 g _ fun G2 H2 g2 => by
  cases a with
  | true =>
    show u σ H2 Q
    exact h2 rfl G2 H2 (g.trans g2.up) Q fun G3 H3 g3 => k G3 H3 (g2.trans g3)
  | false =>
    show Q false H2
    exact k G2 H2 g2
theorem eb_or {t u : TT} {a b : Bool} (h1 : EvB M t σ G H a) (h2 : a = false → EvB M u σ G H b) : EvB M (tOr t u) σ G H (a || b) := fun G1 H1 g Q k => h1 G1 H1 g _ fun G2 H2 g2 => by
  cases a with
  | true =>
    show Q true H2
    exact k G2 H2 g2
  | false =>
    show u σ H2 Q
    exact h2 rfl G2 H2 (g.trans g2.up) Q fun G3 H3 g3 => k G3 H3 (g2.trans g3)
theorem ev_andV {ta tb : TE} {a b : Bool} (h1 : EvT M ta σ G H tBool a) (h2 : a = true → EvT M tb σ G H tBool b) : EvT M (tAndV ta tb) σ G H tBool (a && b) := fun G1 H1 g Q k => h1 G1 H1 g _ fun v G2 H2 g2 r2 => ⟨a, r2, by
  cases a with
  | true =>
    show tb σ H2 Q
    exact h2 rfl G2 H2 (g.trans g2.up) Q fun v G3 H3 g3 r3 => k v G3 H3 (g2.trans g3) r3
  | false =>
    show Q (.bl false) H2
    exact k _ G2 H2 g2 rfl⟩
theorem ev_orV {ta tb : TE} {a b : Bool} (h1 : EvT M ta σ G H tBool a) (h2 : a = false → EvT M tb σ G H tBool b) : EvT M (tOrV ta tb) σ G H tBool (a || b) := fun G1 H1 g Q k => h1 G1 H1 g _ fun v G2 H2 g2 r2 => ⟨a, r2, by
  cases a with
  | true =>
    show Q (.bl true) H2
    exact k _ G2 H2 g2 rfl
  | false =>
    show tb σ H2 Q
    exact h2 rfl G2 H2 (g.trans g2.up) Q fun v G3 H3 g3 r3 => k v G3 H3 (g2.trans g3) r3⟩
theorem ev_notV {ta : TE} {a : Bool} (h1 : EvT M ta σ G H tBool a) : EvT M (tNotV ta) σ G H tBool (!a) := fun G1 H1 g Q k => h1 G1 H1 g _ fun v G2 H2 g2 r2 => ⟨a, r2, k _ G2 H2 g2 rfl⟩
theorem ev_if {t : TT} {ta tb : TE} {b : Bool} {T : Ty α} {x y : α} (h : EvB M t σ G H b) (h1 : b = true → EvT M ta σ G H T x) (h2 : b = false → EvT M tb σ G H T y) : EvT M (tIf t ta tb) σ G H T (if b then x else y) := fun G1 H1 g Q k => h G1 H1 g _ fun G2 H2 g2 => by
  cases b with
  | true =>
    show ta σ H2 Q
    exact h1 rfl G2 H2 (g.trans g2.up) Q fun v G3 H3 g3 r3 => k v G3 H3 (g2.trans g3) r3
  | false =>
    show tb σ H2 Q
    exact h2 rfl G2 H2 (g.trans g2.up) Q fun v G3 H3 g3 r3 => k v G3 H3 (g2.trans g3) r3
end
end My

/-! Data: lists, tuples, fractions, comprehensions, calls. -/
namespace My
open PySem PySem.Spec PyProof.Rows L2
section
variable {M : Addr → Prop} {α β γ δ : Type} {σ : SS} {G H : Hp} {K : PySem.W.Frag} {T : Ty α} {S : Ty β} {U : Ty γ}

/-! ### fractions -/
theorem ev_num {ta : TE} {q : Rat} (ha : EvT M ta σ G H (tFr K) q) : EvT M (tOp (rIxT K) ta (tC (.int 0))) σ G H tInt q.num :=
  ev_op ha ev_int fun v w G1 H1 s sg r1 r2 Q k => by
    obtain ⟨p, rfl, hp⟩ := r1
    exact ⟨p, _, 0, .int q.num, rfl, r2, sqt_mono s hp, rfl, k _ G1 H1 (Grow.refl s) rfl⟩
theorem ev_den {ta : TE} {q : Rat} (ha : EvT M ta σ G H (tFr K) q) : EvT M (tOp (rIxT K) ta (tC (.int 1))) σ G H tInt (q.den : Int) :=
  ev_op ha ev_int fun v w G1 H1 s sg r1 r2 Q k => by
    obtain ⟨p, rfl, hp⟩ := r1
    exact ⟨p, _, 1, .int q.den, rfl, r2, sqt_mono s hp, rfl, k _ G1 H1 (Grow.refl s) rfl⟩
/-- a tuple of two, three, four -/
theorem ev_tup2 {ta tb : TE} {x : α} {y : β} (ha : EvT M ta σ G H T x) (hb : EvT M tb σ G H S y) {W : Ty γ} {z : γ} (hw : ∀ p v w G1, T.rel x v G1 → S.rel y w G1 → G1 p = some (.tup [v, w]) → W.rel z (.ref p) G1) : EvT M (tTup (tCons ta (tCons tb tNil))) σ G H W z :=
  fun G1 H1 g Q k => ha G1 H1 g _ fun v G2 H2 g2 r2 => hb G2 H2 (g.trans g2.up) _ fun w G3 H3 g3 r3 => ⟨by show 2 ≤ sizeLine; decide, fun p hp => by
    have e0 : G3 p = none := Same.none g3.s hp
    have g4 : Grow NoM G1 H1 (upd G3 p (.tup [v, w])) (upd H3 p (.tup [v, w])) := (g2.trans g3).alloc hp
    exact k _ _ _ g4 (hw p v w _ (T.mono (g3.g.trans (same_upd e0)) r2) (S.mono (same_upd e0) r3) upd_same)⟩
theorem ev_fr {ta tb : TE} {q : Rat} {n d : Int} (ha : EvT M ta σ G H tInt n) (hb : EvT M tb σ G H tInt d) (hn : q.num = n) (hd : (q.den : Int) = d) : EvT M (tTup (tCons ta (tCons tb tNil))) σ G H (tFr K) q :=
  ev_tup2 ha hb fun p v w G1 r1 r2 e => ⟨p, rfl, SqT.of (by rw [e, show v = V.int n from r1, show w = V.int d from r2, hn, hd])⟩

/-! ### lists -/
theorem ev_ix {ta tb : TE} {xs : List α} {i : Int} {j : Nat} {x : α} (hi : i = (j : Int)) (hx : xs[j]? = some x) (ha : EvT M ta σ G H (tLs T) xs) (hb : EvT M tb σ G H tInt i) : EvT M (tOp (rIxL K) ta tb) σ G H T x :=
  ev_op ha hb fun v w G1 H1 s sg r1 r2 Q k => by
    obtain ⟨p, vs, rfl, hp, f⟩ := r1
    obtain ⟨u, e1, e2⟩ := f.get hx
    exact ⟨p, vs, i, u, rfl, r2, SqL.of (s p _ hp), by rw [hi]; exact atI_nat e1, k _ G1 H1 (Grow.refl s) e2⟩
theorem atI_m1 {xs : List V} {v : V} (h : xs[xs.length - 1]? = some v) : atI xs (-1) = some v := by
  have hl : 0 < xs.length := by
    cases xs with
    | nil => simp at h
    | cons => simp
  unfold atI ixN
  rw [if_neg (by decide), if_pos (by omega)]
  show xs[((-1 : Int) + (xs.length : Int)).toNat]? = some v
  have : ((-1 : Int) + (xs.length : Int)).toNat = xs.length - 1 := by omega
  rw [this]
  exact h
theorem ev_last {ta : TE} {xs : List α} {x : α} (hx : xs[xs.length - 1]? = some x) (ha : EvT M ta σ G H (tLs T) xs) : EvT M (tOp (rIxL K) ta (tUn rNegI (tC (.int 1)))) σ G H T x :=
  ev_op ha (ev_neg ev_int) fun v w G1 H1 s sg r1 r2 Q k => by
    obtain ⟨p, vs, rfl, hp, f⟩ := r1
    obtain ⟨u, e1, e2⟩ := f.get hx
    exact ⟨p, vs, -1, u, rfl, r2, SqL.of (s p _ hp), atI_m1 (by rw [f.length]; exact e1), k _ G1 H1 (Grow.refl s) e2⟩
theorem ev_len {ta : TE} {xs : List α} (ha : EvT M ta σ G H (tLs T) xs) : EvT M (tCB (rLenS K) (tCons ta tNil)) σ G H tInt (xs.length : Int) := fun G1 H1 g Q k => ha G1 H1 g _ fun v G2 H2 g2 r2 => by
  obtain ⟨p, vs, rfl, hp, f⟩ := r2
  exact ⟨p, vs, rfl, .inl (SqL.of (g2.s p _ hp)), k _ G2 H2 g2 (by show V.int _ = V.int _; rw [f.length])⟩
theorem ev_abs {ta : TE} {i : Int} (ha : EvT M ta σ G H tInt i) : EvT M (tCB rAbsI (tCons ta tNil)) σ G H tInt (i.natAbs : Int) := fun G1 H1 g Q k => ha G1 H1 g _ fun v G2 H2 g2 r2 => by
  refine ⟨i, by rw [show v = V.int i from r2], k _ G2 H2 g2 (?_ : V.int _ = V.int _)⟩
  congr 1
  split <;> omega
theorem ev_max2 {ta tb : TE} {i j : Int} (ha : EvT M ta σ G H tInt i) (hb : EvT M tb σ G H tInt j) : EvT M (tCB rMax2 (tCons ta (tCons tb tNil))) σ G H tInt (if j > i then j else i) := fun G1 H1 g Q k => ha G1 H1 g _ fun v G2 H2 g2 r2 => hb G2 H2 (g.trans g2.up) _ fun w G3 H3 g3 r3 =>
  ⟨i, j, by rw [show v = V.int i from r2, show w = V.int j from r3], k _ G3 H3 (g2.trans g3) rfl⟩
theorem ev_min2 {ta tb : TE} {i j : Int} (ha : EvT M ta σ G H tInt i) (hb : EvT M tb σ G H tInt j) : EvT M (tCB rMin2 (tCons ta (tCons tb tNil))) σ G H tInt (if j < i then j else i) := fun G1 H1 g Q k => ha G1 H1 g _ fun v G2 H2 g2 r2 => hb G2 H2 (g.trans g2.up) _ fun w G3 H3 g3 r3 =>
  ⟨i, j, by rw [show v = V.int i from r2, show w = V.int j from r3], k _ G3 H3 (g2.trans g3) rfl⟩
/-- a new list of things, that may change later -/
def EvM (M : Addr → Prop) (te : TE) (σ : SS) (G H : Hp) (T : Ty α) (xs : List α) : Prop := ∀ G1 H1, Grow M G H G1 H1 → ∀ Q : VK, (∀ p vs G2 H2, Grow NoM G1 H1 G2 H2 → H1 p = none → G2 p = none → H2 p = some (.lst vs) → Fits T vs xs G2 → Q (.ref p) H2) → te σ H1 Q
theorem EvM.go {te : TE} {xs : List α} {Q : VK} (h : EvM M te σ G H T xs) (s : Same G H) (k : ∀ p vs G2 H2, Grow NoM G H G2 H2 → H p = none → G2 p = none → H2 p = some (.lst vs) → Fits T vs xs G2 → Q (.ref p) H2) : te σ H Q := h G H (Grow.refl s) Q k
theorem EvM.is {te : TE} {xs ys : List α} (h : EvM M te σ G H T xs) (e : xs = ys) : EvM M te σ G H T ys := e ▸ h
theorem ev_newL {te : TE} {xs : List α} (h : EvM M te σ G H T xs) : EvT M te σ G H (tLs T) xs :=
  fun G1 H1 g Q k => h G1 H1 g Q fun p vs G2 H2 g2 hp hg e f => k _ _ H2 (g2.freeze hp hg e) ⟨p, vs, rfl, upd_same, f.mono (same_upd hg)⟩
theorem em_nil : EvM M (tLst tNil) σ G H T [] := fun G1 H1 g Q k => ⟨Nat.zero_le _, fun p hp => k p [] G1 _ ((Grow.refl g.s).made hp) hp (Same.none g.s hp) upd_same True.intro⟩
theorem em_lst1 {ta : TE} {x : α} (ha : EvT M ta σ G H T x) : EvM M (tLst (tCons ta tNil)) σ G H T [x] := fun G1 H1 g Q k => ha G1 H1 g _ fun v G2 H2 g2 r2 =>
  ⟨by show 1 ≤ sizeLine; decide, fun p hp => k p [v] G2 _ (g2.made hp) (g2.new hp) (Same.none g2.s hp) upd_same (Fits.one r2)⟩
theorem em_cat {ta tb : TE} {xs ys : List α} (hz : xs.length + ys.length ≤ sizeLine) (ha : EvT M ta σ G H (tLs T) xs) (hb : EvT M tb σ G H (tLs T) ys) : EvM M (tOp rCat ta tb) σ G H T (xs ++ ys) := fun G1 H1 g Q k => ha G1 H1 g _ fun v G2 H2 g2 r2 => hb G2 H2 (g.trans g2.up) _ fun w G3 H3 g3 r3 => by
    obtain ⟨p, vs, rfl, hp, f⟩ := r2
    obtain ⟨q, ws, rfl, hq, f2⟩ := r3
    refine ⟨p, q, vs, ws, rfl, rfl, g3.hh p _ (g2.s p _ hp), g3.s q _ hq, by rw [f.length, f2.length]; exact hz, fun r hr => ?_⟩
    exact k r _ G3 _ ((g2.trans g3).made hr) ((g2.trans g3).new hr) (Same.none g3.s hr) upd_same ((f.mono g3.g).append f2)
theorem ev_nilL : EvT M (tLst tNil) σ G H (tLs T) [] := ev_newL em_nil
theorem ev_lst1 {ta : TE} {x : α} (ha : EvT M ta σ G H T x) : EvT M (tLst (tCons ta tNil)) σ G H (tLs T) [x] := ev_newL (em_lst1 ha)
theorem ev_cat {ta tb : TE} {xs ys : List α} (hz : xs.length + ys.length ≤ sizeLine) (ha : EvT M ta σ G H (tLs T) xs) (hb : EvT M tb σ G H (tLs T) ys) : EvT M (tOp rCat ta tb) σ G H (tLs T) (xs ++ ys) := ev_newL (em_cat hz ha hb)
/-- parts of slices -/
theorem eo_no : EvO M tNoPart σ G H none := fun G1 H1 g Q k => k G1 H1 (Grow.refl g.s)
theorem eo_part {te : TE} {i : Int} (h : EvT M te σ G H tInt i) : EvO M (tPart te) σ G H (some i) := fun G1 H1 g Q k => h G1 H1 g _ fun v G2 H2 g2 r2 => ⟨i, r2, k G2 H2 g2⟩
def cutT {α : Type} (xs : List α) (lo hi : Option Int) : List α := (xs.drop (HT.sIx xs.length 0 lo)).take (HT.sIx xs.length xs.length hi - HT.sIx xs.length 0 lo)
theorem Fits.cut {vs : List V} {xs : List α} (f : Fits T vs xs G) (lo hi : Option Int) : Fits T (cutV vs lo hi) (cutT xs lo hi) G := by
  unfold cutV cutT
  rw [f.length]
  exact (f.drop _).take _
theorem em_slice {te : TE} {tl th : TO} {xs : List α} {lo hi : Option Int} (ha : EvT M te σ G H (tLs T) xs) (hl : EvO M tl σ G H lo) (hh : EvO M th σ G H hi) : EvM M (tSl (rSlL K) te tl th) σ G H T (cutT xs lo hi) := fun G1 H1 g Q k => ha G1 H1 g _ fun v G2 H2 g2 r2 => hl G2 H2 (g.trans g2.up) _ fun G3 H3 g3 => hh G3 H3 ((g.trans g2.up).trans g3.up) _ fun G4 H4 g4 => by
    obtain ⟨p, vs, rfl, hp, f⟩ := r2
    have s4 := (g2.trans g3).trans g4
    exact ⟨p, vs, rfl, SqL.of (g4.s p _ (g4.g p _ (g3.g p _ hp))), fun r hr => k r _ G4 _ (s4.made hr) (s4.new hr) (Same.none g4.s hr) upd_same ((f.mono (g3.g.trans g4.g)).cut lo hi)⟩
theorem ev_slice {te : TE} {tl th : TO} {xs : List α} {lo hi : Option Int} (ha : EvT M te σ G H (tLs T) xs) (hl : EvO M tl σ G H lo) (hh : EvO M th σ G H hi) : EvT M (tSl (rSlL K) te tl th) σ G H (tLs T) (cutT xs lo hi) := ev_newL (em_slice ha hl hh)
theorem cut_from {xs : List α} {k : Nat} : cutT xs (some (k : Int)) none = xs.drop k := by
  unfold cutT
  rw [HT.sIx_nat, show HT.sIx xs.length xs.length none = xs.length from rfl]
  by_cases h : k ≤ xs.length
  · rw [Nat.min_eq_left h]
    exact List.take_of_length_le (by rw [List.length_drop]; omega)
  · rw [Nat.min_eq_right (by omega), List.drop_of_length_le (by omega : xs.length ≤ k), List.drop_of_length_le (Nat.le_refl _), List.take_nil]
theorem cut_to {xs : List α} {k : Nat} : cutT xs none (some (k : Int)) = xs.take k := by
  unfold cutT
  rw [HT.sIx_nat, show HT.sIx xs.length 0 none = 0 from rfl, List.drop_zero, Nat.sub_zero]
  by_cases h : k ≤ xs.length
  · rw [Nat.min_eq_left h]
  · rw [Nat.min_eq_right (by omega), List.take_of_length_le (Nat.le_refl _), List.take_of_length_le (by omega)]
theorem cut_front {xs : List α} : cutT xs none (some (-1)) = xs.dropLast := by
  unfold cutT
  rw [show HT.sIx xs.length 0 none = 0 from rfl, List.drop_zero, Nat.sub_zero, List.dropLast_eq_take]
  have q := HT.clip_eq (-1) xs.length xs.length
  rw [if_pos (by decide)] at q
  have : HT.sIx xs.length xs.length (some (-1)) = xs.length - 1 := by omega
  rw [this]

/-! ### comprehensions over a list -/
theorem em_lc {tl te : TE} {tt : TT} {j : Nat} {vs0 : List Nat} {xs : List α} {p : α → Bool} {f : α → β} (ha : EvT M tl σ G H (tLs T) xs) (hz : xs.length ≤ 100000) (hw : ∀ x, wipe ((wipe σ vs0).set j (some x)) vs0 = wipe σ vs0)
    (ht : ∀ x v G1 H1, x ∈ xs → Grow M G H G1 H1 → T.rel x v G1 → EvB M tt ((wipe σ vs0).set j (some v)) G1 H1 (p x))
    (he : ∀ x v G1 H1, x ∈ xs → p x = true → Grow M G H G1 H1 → T.rel x v G1 → EvT M te ((wipe σ vs0).set j (some v)) G1 H1 S (f x)) :
    EvM M (tLc (iList K tl) (gName j) tt te vs0) σ G H S ((xs.filter p).map f) := fun G1 H1 g Q k => ha G1 H1 g _ fun v G2 H2 g2 r2 => by
    obtain ⟨l, vs, rfl, hl, fit⟩ := r2
    refine ⟨l, rfl, ⟨vs, SqL.of (g2.s l _ hl)⟩, fun D hD => ?_⟩
    have hD2 : G2 D = none := Same.none g2.s hD
    refine lc_list (K := K) (a := l) (xs := vs) (fun i H' => ∃ G' ws, Grow NoM G2 H2 G' H' ∧ G' D = none ∧ H' D = some (.lst ws) ∧ Fits S ws (((xs.take i).filter p).map f) G')
      ⟨G2, [], (Grow.refl g2.s).made hD, hD2, upd_same, True.intro⟩ (fun i H' _ ⟨G', ws, g3, _, _, _⟩ => SqL.of (g3.s l _ (g3.g l _ hl))) ?_ ?_
    · rintro i v H' hi ⟨G', ws, g3, hG, hH, ff⟩
      obtain ⟨x, ex, rx⟩ := fit.getV hi
      have hx : x ∈ xs := List.mem_of_getElem? ex
      have gg := (g.trans g2.up).trans (g3.up (M := M))
      have etake : xs.take (i + 1) = xs.take i ++ [x] := by rw [List.take_add_one, ex]; rfl
      refine ⟨hw v, ?_⟩
      refine ht x v G' H' hx gg (T.mono g3.g rx) G' H' (Grow.refl g3.s) _ fun G4 H4 g4 => ?_
      have hG4 : G4 D = none := g4.n D hG (ne_none_of hH)
      cases hp : p x with
      | false =>
        show ∃ G' ws, _
        exact ⟨G4, ws, g3.trans g4, hG4, g4.hh D _ hH, by rw [etake, List.filter_append, List.filter_cons, if_neg (by rw [hp]; decide), List.filter_nil, List.append_nil]; exact ff.mono g4.g⟩
      | true =>
        show te _ H4 _
        refine he x v G4 H4 hx hp (gg.trans g4.up) (T.mono (g3.g.trans g4.g) rx) G4 H4 (Grow.refl g4.s) _ fun y G5 H5 g5 r5 => ?_
        have hG5 : G5 D = none := g5.n D hG4 (ne_none_of (g4.hh D _ hH))
        have hH5 : H5 D = some (.lst ws) := g5.hh D _ (g4.hh D _ hH)
        have lw : ws.length ≤ i := by
          rw [ff.length, List.length_map]
          exact Nat.le_trans (List.length_filter_le _ _) (by rw [List.length_take]; omega)
        have li : i < vs.length := (List.getElem?_eq_some_iff.mp hi).1
        rw [fit.length] at li
        refine ⟨ws, hH5, Nat.lt_of_le_of_lt lw (Nat.lt_of_lt_of_le li (Nat.le_trans hz (by decide))), G5, ws ++ [y], ((g3.trans g4).trans g5).mut hD hG5, hG5, upd_same, ?_⟩
        rw [etake, List.filter_append, List.filter_cons, if_pos hp, List.filter_nil, List.map_append]
        exact (ff.mono (g4.g.trans g5.g)).append (Fits.one r5)
    · rintro H' ⟨G', ws, g3, hG, hH, ff⟩
      rw [fit.length, List.take_of_length_le (Nat.le_refl _)] at ff
      exact k D ws G' H' (g2.trans g3) (g2.new hD) hG hH ff
theorem ev_lc {tl te : TE} {tt : TT} {j : Nat} {vs0 : List Nat} {xs : List α} {p : α → Bool} {f : α → β} (ha : EvT M tl σ G H (tLs T) xs) (hz : xs.length ≤ 100000) (hw : ∀ x, wipe ((wipe σ vs0).set j (some x)) vs0 = wipe σ vs0)
    (ht : ∀ x v G1 H1, x ∈ xs → Grow M G H G1 H1 → T.rel x v G1 → EvB M tt ((wipe σ vs0).set j (some v)) G1 H1 (p x))
    (he : ∀ x v G1 H1, x ∈ xs → p x = true → Grow M G H G1 H1 → T.rel x v G1 → EvT M te ((wipe σ vs0).set j (some v)) G1 H1 S (f x)) : EvT M (tLc (iList K tl) (gName j) tt te vs0) σ G H (tLs S) ((xs.filter p).map f) := ev_newL (em_lc ha hz hw ht he)
theorem filter_true {xs : List α} : xs.filter (fun _ => true) = xs := List.filter_eq_self.mpr fun _ _ => rfl
theorem em_lcm {tl te : TE} {j : Nat} {vs0 : List Nat} {xs : List α} {f : α → β} (ha : EvT M tl σ G H (tLs T) xs) (hz : xs.length ≤ 100000) (hw : ∀ x, wipe ((wipe σ vs0).set j (some x)) vs0 = wipe σ vs0)
    (he : ∀ x v G1 H1, x ∈ xs → Grow M G H G1 H1 → T.rel x v G1 → EvT M te ((wipe σ vs0).set j (some v)) G1 H1 S (f x)) : EvM M (tLc (iList K tl) (gName j) tYes te vs0) σ G H S (xs.map f) := by
  have h := em_lc (K := K) (tt := tYes) (p := fun _ => true) (f := f) ha hz hw (fun _ _ _ _ _ _ _ => eb_yes) (fun x v G1 H1 hx _ g r => he x v G1 H1 hx g r)
  rw [filter_true] at h
  exact h
theorem ev_lcm {tl te : TE} {j : Nat} {vs0 : List Nat} {xs : List α} {f : α → β} (ha : EvT M tl σ G H (tLs T) xs) (hz : xs.length ≤ 100000) (hw : ∀ x, wipe ((wipe σ vs0).set j (some x)) vs0 = wipe σ vs0)
    (he : ∀ x v G1 H1, x ∈ xs → Grow M G H G1 H1 → T.rel x v G1 → EvT M te ((wipe σ vs0).set j (some v)) G1 H1 S (f x)) : EvT M (tLc (iList K tl) (gName j) tYes te vs0) σ G H (tLs S) (xs.map f) := by
  have h := ev_lc (K := K) (tt := tYes) (p := fun _ => true) (f := f) ha hz hw (fun _ _ _ _ _ _ _ => eb_yes) (fun x v G1 H1 hx _ g r => he x v G1 H1 hx g r)
  rw [filter_true] at h
  exact h

/-! ### defs -/
/-- the def hands back y for x, y .. : it makes only new things -/
def Spec1 (sp : Sp) (T : Ty α) (U : Ty γ) (x : α) (z : γ) : Prop := ∀ G H v (Q : VK) (E : XK), Same G H → T.rel x v G → (∀ u G' H', Grow NoM G H G' H' → U.rel z u G' → Q u H') → sp [v] H Q E
def Spec2 (sp : Sp) (T : Ty α) (S : Ty β) (U : Ty γ) (x : α) (y : β) (z : γ) : Prop := ∀ G H v w (Q : VK) (E : XK), Same G H → T.rel x v G → S.rel y w G → (∀ u G' H', Grow NoM G H G' H' → U.rel z u G' → Q u H') → sp [v, w] H Q E
def Spec3 (sp : Sp) (T : Ty α) (S : Ty β) (R : Ty δ) (U : Ty γ) (x : α) (y : β) (t : δ) (z : γ) : Prop :=
  ∀ G H v w r (Q : VK) (E : XK), Same G H → T.rel x v G → S.rel y w G → R.rel t r G → (∀ u G' H', Grow NoM G H G' H' → U.rel z u G' → Q u H') → sp [v, w, r] H Q E
theorem ev_call1 {sp : Sp} {E : XK} {ta : TE} {x : α} {z : γ} (hs : Spec1 sp T U x z) (ha : EvT M ta σ G H T x) : EvT M (tCall sp [] E (tCons ta tNil)) σ G H U z :=
  fun G1 H1 g Q k => ha G1 H1 g _ fun v G2 H2 g2 r2 => hs G2 H2 v Q E g2.s r2 fun u G3 H3 g3 r3 => k u G3 H3 (g2.trans g3) r3
theorem ev_call2 {sp : Sp} {E : XK} {ta tb : TE} {x : α} {y : β} {z : γ} (hs : Spec2 sp T S U x y z) (ha : EvT M ta σ G H T x) (hb : EvT M tb σ G H S y) : EvT M (tCall sp [] E (tCons ta (tCons tb tNil))) σ G H U z :=
  fun G1 H1 g Q k => ha G1 H1 g _ fun v G2 H2 g2 r2 => hb G2 H2 (g.trans g2.up) _ fun w G3 H3 g3 r3 => hs G3 H3 v w Q E g3.s (T.mono g3.g r2) r3 fun u G4 H4 g4 r4 => k u G4 H4 ((g2.trans g3).trans g4) r4
theorem ev_call3 {sp : Sp} {E : XK} {R : Ty δ} {ta tb tc : TE} {x : α} {y : β} {t : δ} {z : γ} (hs : Spec3 sp T S R U x y t z) (ha : EvT M ta σ G H T x) (hb : EvT M tb σ G H S y) (hc : EvT M tc σ G H R t) : EvT M (tCall sp [] E (tCons ta (tCons tb (tCons tc tNil)))) σ G H U z :=
  fun G1 H1 g Q k => ha G1 H1 g _ fun v G2 H2 g2 r2 => hb G2 H2 (g.trans g2.up) _ fun w G3 H3 g3 r3 => hc G3 H3 ((g.trans g2.up).trans g3.up) _ fun r G4 H4 g4 r4 =>
    hs G4 H4 v w r Q E g4.s (T.mono (g3.g.trans g4.g) r2) (S.mono g4.g r3) r4 fun u G5 H5 g5 r5 => k u G5 H5 (((g2.trans g3).trans g4).trans g5) r5
end
end My

/-! Data: statements and loops. -/
namespace My
open PySem PySem.Spec PyProof.Rows L2
section
variable {M : Addr → Prop} {α β γ δ : Type} {σ : SS} {G H : Hp} {K : PySem.W.Frag} {T : Ty α} {S : Ty β} {U : Ty γ} {D : Ends} {tu tw tz : TS} {x : α} {y : β}
theorem s_asg {te : TE} {i : Nat} (h : EvT M te σ G H T x) (s : Same G H) (k : ∀ v G1 H1, Grow NoM G H G1 H1 → T.rel x v G1 → D.nx (σ.set i (some v)) H1) : tAsg te (gName i) D σ H := h.go s k
theorem q_asg {te : TE} {i : Nat} (h : EvT M te σ G H T x) (s : Same G H) (k : ∀ v G1 H1, Grow NoM G H G1 H1 → T.rel x v G1 → tz D (σ.set i (some v)) H1) : tSeq (tAsg te (gName i)) tz D σ H := h.go s k
theorem s_par {ta tb : TE} {i j : Nat} (ha : EvT M ta σ G H T x) (hb : EvT M tb σ G H S y) (s : Same G H) (k : ∀ v w G1 H1, Grow NoM G H G1 H1 → T.rel x v G1 → S.rel y w G1 → D.nx ((σ.set i (some v)).set j (some w)) H1) : tPar i j (tCons ta (tCons tb tNil)) D σ H :=
  ha.go s fun v G1 H1 g1 r1 => hb G1 H1 g1.up _ fun w G2 H2 g2 r2 => ⟨v, w, rfl, k v w G2 H2 (g1.trans g2) (T.mono g2.g r1) r2⟩
theorem q_par {ta tb : TE} {i j : Nat} (ha : EvT M ta σ G H T x) (hb : EvT M tb σ G H S y) (s : Same G H) (k : ∀ v w G1 H1, Grow NoM G H G1 H1 → T.rel x v G1 → S.rel y w G1 → tz D ((σ.set i (some v)).set j (some w)) H1) : tSeq (tPar i j (tCons ta (tCons tb tNil))) tz D σ H :=
  s_par (D := { D with nx := tz D }) ha hb s k
theorem s_ret {te : TE} (h : EvT M te σ G H T x) (s : Same G H) (k : ∀ v G1 H1, Grow NoM G H G1 H1 → T.rel x v G1 → D.rt v H1) : tRet te D σ H := h.go s k
theorem q_ret {te : TE} (h : EvT M te σ G H T x) (s : Same G H) (k : ∀ v G1 H1, Grow NoM G H G1 H1 → T.rel x v G1 → D.rt v H1) : tSeq (tRet te) tz D σ H := h.go s k
theorem s_if {t : TT} {b : Bool} (h : EvB M t σ G H b) (s : Same G H) (h1 : b = true → ∀ G1 H1, Grow NoM G H G1 H1 → tu D σ H1) (h2 : b = false → ∀ G1 H1, Grow NoM G H G1 H1 → tw D σ H1) : tIfS t tu tw D σ H := h.go s fun G1 H1 g => by
  cases b with
  | true => exact h1 rfl G1 H1 g
  | false => exact h2 rfl G1 H1 g
theorem q_if {t : TT} {b : Bool} (h : EvB M t σ G H b) (s : Same G H) (h1 : b = true → ∀ G1 H1, Grow NoM G H G1 H1 → tu { D with nx := tz D } σ H1) (h2 : b = false → ∀ G1 H1, Grow NoM G H G1 H1 → tw { D with nx := tz D } σ H1) : tSeq (tIfS t tu tw) tz D σ H :=
  s_if (D := { D with nx := tz D }) h s h1 h2
/-- if t: .. with nothing else -/
theorem q_when {t : TT} {b : Bool} (h : EvB M t σ G H b) (s : Same G H) (h1 : b = true → ∀ G1 H1, Grow NoM G H G1 H1 → tu { D with nx := tz D } σ H1) (h2 : b = false → ∀ G1 H1, Grow NoM G H G1 H1 → tz D σ H1) : tSeq (tIfS t tu tNext) tz D σ H :=
  s_if (D := { D with nx := tz D }) h s h1 h2
theorem s_when {t : TT} {b : Bool} (h : EvB M t σ G H b) (s : Same G H) (h1 : b = true → ∀ G1 H1, Grow NoM G H G1 H1 → tu D σ H1) (h2 : b = false → ∀ G1 H1, Grow NoM G H G1 H1 → D.nx σ H1) : tIfS t tu tNext D σ H := s_if h s h1 h2
/-- l.append(e), l a list that will change -/
theorem s_app {ta te : TE} {l : Addr} {xs : List V} (hl : H l = some (.lst xs)) (hz : xs.length < sizeLine) (ha : EvT M ta σ G H tVal (.ref l)) (he : EvT M te σ G H T x) (s : Same G H)
    (k : ∀ v G1 H1, Grow NoM G H G1 H1 → T.rel x v G1 → H1 l = some (.lst xs) → D.nx σ (upd H1 l (.lst (xs ++ [v])))) : tDrop (tBM K "list" rAppend ta (tCons te tNil)) D σ H :=
  ha.go s fun v G1 H1 g1 r1 => by
    cases r1
    refine ⟨.inl ⟨rfl, _, SqL.of (g1.hh l _ hl)⟩, he G1 H1 g1.up _ fun w G2 H2 g2 r2 => ?_⟩
    have e := g2.hh l _ (g1.hh l _ hl)
    exact ⟨l, xs, w, rfl, rfl, e, hz, k w G2 H2 (g1.trans g2) r2 e⟩
theorem q_app {ta te : TE} {l : Addr} {xs : List V} (hl : H l = some (.lst xs)) (hz : xs.length < sizeLine) (ha : EvT M ta σ G H tVal (.ref l)) (he : EvT M te σ G H T x) (s : Same G H)
    (k : ∀ v G1 H1, Grow NoM G H G1 H1 → T.rel x v G1 → H1 l = some (.lst xs) → tz D σ (upd H1 l (.lst (xs ++ [v])))) : tSeq (tDrop (tBM K "list" rAppend ta (tCons te tNil))) tz D σ H := s_app (D := { D with nx := tz D }) hl hz ha he s k

/-- x = a new list that will change -/
theorem q_asgM {te : TE} {i : Nat} {xs : List α} (h : EvM M te σ G H T xs) (s : Same G H) (k : ∀ p vs G1 H1, Grow NoM G H G1 H1 → H p = none → G1 p = none → H1 p = some (.lst vs) → Fits T vs xs G1 → tz D (σ.set i (some (.ref p))) H1) : tSeq (tAsg te (gName i)) tz D σ H := h.go s k
theorem q_parM {ta tb : TE} {i j : Nat} {ys : List β} (ha : EvT M ta σ G H T x) (hb : EvM M tb σ G H S ys) (s : Same G H)
    (k : ∀ v p vs G1 H1, Grow NoM G H G1 H1 → T.rel x v G1 → H p = none → G1 p = none → H1 p = some (.lst vs) → Fits S vs ys G1 → tz D ((σ.set i (some v)).set j (some (.ref p))) H1) : tSeq (tPar i j (tCons ta (tCons tb tNil))) tz D σ H :=
  ha.go s fun v G1 H1 g1 r1 => hb G1 H1 g1.up _ fun p vs G2 H2 g2 hp hg e f => ⟨v, .ref p, rfl, k v p vs G2 H2 (g1.trans g2) (T.mono g2.g r1) (g1.new hp) hg e f⟩
theorem q_parMM {ta tb : TE} {i j : Nat} {xs : List α} {ys : List β} (ha : EvM M ta σ G H T xs) (hb : EvM M tb σ G H S ys) (s : Same G H)
    (k : ∀ q ws p vs G1 H1, Grow NoM G H G1 H1 → H q = none → G1 q = none → H1 q = some (.lst ws) → Fits T ws xs G1 → H p = none → G1 p = none → H1 p = some (.lst vs) → Fits S vs ys G1 → q ≠ p → tz D ((σ.set i (some (.ref q))).set j (some (.ref p))) H1) : tSeq (tPar i j (tCons ta (tCons tb tNil))) tz D σ H :=
  ha.go s fun q ws G1 H1 g1 hq hg1 e1 f1 => hb G1 H1 g1.up _ fun p vs G2 H2 g2 hp hg e f => ⟨.ref q, .ref p, rfl, k q ws p vs G2 H2 (g1.trans g2) hq (g2.n q hg1 (ne_none_of e1)) (g2.hh q _ e1) (f1.mono g2.g) (g1.new hp) hg e f (ne_of_none e1 hp)⟩

/-! ### loops -/
/-- while: W by a measure, over the part that never changes and the heap -/
theorem s_while {t : TT} (W : Nat → SS → Hp → Hp → Prop) (m0 : Nat) (h0 : W m0 σ G H)
    (hs : ∀ m σ' G' H', W m σ' G' H' → Same G' H' ∧ ∃ b, EvB NoM t σ' G' H' b ∧ (b = true → ∀ G1 H1, Grow NoM G' H' G1 H1 → tu { D with nx := fun σ2 H2 => ∃ m' G2, m' < m ∧ W m' σ2 G2 H2, ct := fun σ2 H2 => ∃ m' G2, m' < m ∧ W m' σ2 G2 H2, bk := D.nx } σ' H1) ∧
      (b = false → ∀ G1 H1, Grow NoM G' H' G1 H1 → D.nx σ' H1)) : tWhile t tu D σ H := by
  refine ⟨fun m σ' H' => ∃ G', W m σ' G' H', ⟨m0, G, h0⟩, fun m σ' H' ⟨G', w⟩ => ?_⟩
  obtain ⟨s, b, hb, h1, h2⟩ := hs m σ' G' H' w
  refine hb.go s fun G1 H1 g => ?_
  cases b with
  | true => exact ⟨_, fun σ2 H2 ⟨m', G2, l, w2⟩ => ⟨m', l, G2, w2⟩, h1 rfl G1 H1 g⟩
  | false => exact h2 rfl G1 H1 g
/-- what a loop's turn is to reach -/
abbrev Nx (Iv : Nat → SS → Hp → Hp → Prop) (G0 : Hp) (i : Nat) : SS → Hp → Prop := fun σ H => ∃ G', Same G0 G' ∧ Iv i σ G' H
theorem Nx.mk {Iv : Nat → SS → Hp → Hp → Prop} {G0 G' : Hp} {i : Nat} {σ : SS} {H : Hp} (s : Same G0 G') (h : Iv i σ G' H) : Nx Iv G0 i σ H := ⟨G', s, h⟩
/-- for over a list; Iv: turn, slots, the part that never changes, heap -/
theorem s_for {tl : TE} {g : TG} {xs : List α} (ha : EvT M tl σ G H (tLs T) xs) (s : Same G H) (Iv : Nat → SS → Hp → Hp → Prop)
    (h0 : ∀ G1 H1, Grow NoM G H G1 H1 → Iv 0 σ G1 H1) (hk : ∀ i σ' G' H', Iv i σ' G' H' → Same G' H')
    (hs : ∀ G0 i x v σ' G' H', Same G0 G' → xs[i]? = some x → Iv i σ' G' H' → T.rel x v G' → g v σ' H' fun σ2 H2 => tu { D with nx := Nx Iv G0 (i + 1), ct := Nx Iv G0 (i + 1), bk := D.nx } σ2 H2)
    (hd : ∀ σ' G' H', Iv xs.length σ' G' H' → D.nx σ' H') : tFor (iList K tl) g tu D σ H := ha.go s fun v G1 H1 g1 r1 => by
  obtain ⟨l, vs, rfl, hl, fit⟩ := r1
  refine ⟨l, rfl, ⟨vs, SqL.of (g1.s l _ hl)⟩, for_list (K := K) (a := l) (xs := vs) (Nx Iv G1) ⟨G1, Same.refl _, h0 G1 H1 g1⟩
    (fun i σ' H' _ ⟨G', s', w⟩ => SqL.of (hk i σ' G' H' w l _ (s' l _ hl))) (fun i v σ' H' hi ⟨G', s', w⟩ => ?_) fun σ' H' ⟨G', _, w⟩ => hd σ' G' H' (by rw [← fit.length]; exact w)⟩
  obtain ⟨x, ex, rx⟩ := fit.getV hi
  exact hs G1 i x v σ' G' H' s' ex w (T.mono s' rx)
theorem q_for {tl : TE} {g : TG} {xs : List α} (ha : EvT M tl σ G H (tLs T) xs) (s : Same G H) (Iv : Nat → SS → Hp → Hp → Prop)
    (h0 : ∀ G1 H1, Grow NoM G H G1 H1 → Iv 0 σ G1 H1) (hk : ∀ i σ' G' H', Iv i σ' G' H' → Same G' H')
    (hs : ∀ G0 i x v σ' G' H', Same G0 G' → xs[i]? = some x → Iv i σ' G' H' → T.rel x v G' → g v σ' H' fun σ2 H2 => tu { D with nx := Nx Iv G0 (i + 1), ct := Nx Iv G0 (i + 1), bk := tz D } σ2 H2)
    (hd : ∀ σ' G' H', Iv xs.length σ' G' H' → tz D σ' H') : tSeq (tFor (iList K tl) g tu) tz D σ H := s_for (D := { D with nx := tz D }) ha s Iv h0 hk hs hd
/-- for i, x in enumerate(xs) -/
theorem s_enum {tl : TE} {a b : Nat} {xs : List α} (ha : EvT M tl σ G H (tLs T) xs) (s : Same G H) (Iv : Nat → SS → Hp → Hp → Prop)
    (h0 : ∀ G1 H1, Grow NoM G H G1 H1 → Iv 0 σ G1 H1) (hk : ∀ i σ' G' H', Iv i σ' G' H' → Same G' H')
    (hs : ∀ G0 i x v σ' G' H' G2 H2, Same G0 G2 → xs[i]? = some x → Iv i σ' G' H' → Grow NoM G' H' G2 H2 → T.rel x v G2 → tu { D with nx := Nx Iv G0 (i + 1), ct := Nx Iv G0 (i + 1), bk := D.nx } ((σ'.set a (some (.int (i : Int)))).set b (some v)) H2)
    (hd : ∀ σ' G' H', Iv xs.length σ' G' H' → D.nx σ' H') : tFor (iEnum K (tCons tl tNil)) (gTup K 2 (gCons (gName a) (gCons (gName b) gNil))) tu D σ H := ha.go s fun v G1 H1 g1 r1 => by
  obtain ⟨l, vs, rfl, hl, fit⟩ := r1
  refine ⟨l, vs, rfl, SqL.of (g1.s l _ hl), fun i m σ' H' => m = vs.length - i ∧ i ≤ vs.length ∧ Nx Iv G1 i σ' H', ⟨vs.length, rfl, Nat.zero_le _, G1, Same.refl _, h0 G1 H1 g1⟩, ?_⟩
  rintro i m σ' H' ⟨rfl, hi, G', s', w⟩
  have sl : SqL K H' l vs := SqL.of (hk i σ' G' H' w l _ (s' l _ hl))
  by_cases hlt : i < vs.length
  · refine .inr ⟨⟨vs, vs[i], sl, List.getElem?_eq_getElem hlt⟩, Nx Iv G1 (i + 1), fun σ2 H2 p => ⟨_, by omega, rfl, hlt, p⟩, fun u H2 hy => ?_⟩
    obtain ⟨t, v, rfl, hT, rfl, f⟩ := hy
    have hv := f vs sl
    obtain ⟨x, ex, rx⟩ := fit.getV hv
    have g2 : Grow NoM G' H' (upd G' t (.tup [.int (i : Nat), v])) (upd H' t (.tup [.int (i : Nat), v])) := (Grow.refl (hk i σ' G' H' w)).alloc hT
    exact ⟨t, _, rfl, SqT.of upd_same, rfl, _, _, rfl, _, _, rfl, rfl, hs G1 i x v σ' G' H' _ _ (s'.trans g2.g) ex w g2 (T.mono (s'.trans g2.g) rx)⟩
  · have e : i = vs.length := by omega
    subst e
    exact .inl ⟨⟨vs, sl, Nat.le_refl _⟩, hd σ' G' H' (by rw [← fit.length]; exact w)⟩
theorem q_enum {tl : TE} {a b : Nat} {xs : List α} (ha : EvT M tl σ G H (tLs T) xs) (s : Same G H) (Iv : Nat → SS → Hp → Hp → Prop)
    (h0 : ∀ G1 H1, Grow NoM G H G1 H1 → Iv 0 σ G1 H1) (hk : ∀ i σ' G' H', Iv i σ' G' H' → Same G' H')
    (hs : ∀ G0 i x v σ' G' H' G2 H2, Same G0 G2 → xs[i]? = some x → Iv i σ' G' H' → Grow NoM G' H' G2 H2 → T.rel x v G2 → tu { D with nx := Nx Iv G0 (i + 1), ct := Nx Iv G0 (i + 1), bk := tz D } ((σ'.set a (some (.int (i : Int)))).set b (some v)) H2)
    (hd : ∀ σ' G' H', Iv xs.length σ' G' H' → tz D σ' H') : tSeq (tFor (iEnum K (tCons tl tNil)) (gTup K 2 (gCons (gName a) (gCons (gName b) gNil))) tu) tz D σ H := s_enum (D := { D with nx := tz D }) ha s Iv h0 hk hs hd
/-- for x, y in zip(xs, ys), as long as the shorter one -/
theorem q_zip {tl tm : TE} {a b : Nat} {xs : List α} {ys : List β} (ha : EvT M tl σ G H (tLs T) xs) (hb : EvT M tm σ G H (tLs S) ys) (hl2 : ys.length ≤ xs.length) (s : Same G H) (Iv : Nat → SS → Hp → Hp → Prop)
    (h0 : ∀ G1 H1, Grow NoM G H G1 H1 → Iv 0 σ G1 H1) (hk : ∀ i σ' G' H', Iv i σ' G' H' → Same G' H')
    (hs : ∀ G0 i x y v w σ' G' H' G2 H2, Same G0 G2 → xs[i]? = some x → ys[i]? = some y → Iv i σ' G' H' → Grow NoM G' H' G2 H2 → T.rel x v G2 → S.rel y w G2 → tu { D with nx := Nx Iv G0 (i + 1), ct := Nx Iv G0 (i + 1), bk := tz D } ((σ'.set a (some v)).set b (some w)) H2)
    (hd : ∀ σ' G' H', Iv ys.length σ' G' H' → tz D σ' H') : tSeq (tFor (iZip K (tCons tl (tCons tm tNil))) (gTup K 2 (gCons (gName a) (gCons (gName b) gNil))) tu) tz D σ H := ha.go s fun v0 G0 H0 g0 r0 => hb G0 H0 g0.up _ fun v1 G1 H1 g1 r1 => by
  obtain ⟨l, vs, rfl, hl0, fit⟩ := r0
  obtain ⟨m, ws, rfl, hm, fit2⟩ := r1
  have hl : G1 l = some (.lst vs) := g1.g l _ hl0
  have hlen : ws.length ≤ vs.length := by rw [fit.length, fit2.length]; exact hl2
  have fitG := fit.mono g1.g
  refine ⟨l, m, vs, ws, rfl, SqL.of (g1.s l _ hl), SqL.of (g1.s m _ hm), fun i m σ' H' => m = ws.length - i ∧ i ≤ ws.length ∧ Nx Iv G1 i σ' H', ⟨ws.length, rfl, Nat.zero_le _, G1, Same.refl _, h0 G1 H1 (g0.trans g1)⟩, ?_⟩
  rintro i n σ' H' ⟨rfl, hi, G', s', w⟩
  have sl : SqL K H' l vs := SqL.of (hk i σ' G' H' w l _ (s' l _ hl))
  have sm : SqL K H' m ws := SqL.of (hk i σ' G' H' w m _ (s' m _ hm))
  by_cases hlt : i < ws.length
  · refine .inr ⟨⟨vs, ws, vs[i], ws[i], sl, sm, List.getElem?_eq_getElem (by omega), List.getElem?_eq_getElem hlt⟩, Nx Iv G1 (i + 1), fun σ2 H2 p => ⟨_, by omega, rfl, hlt, p⟩, fun u H2 hy => ?_⟩
    obtain ⟨t, v, w', rfl, hT, rfl, f, f2⟩ := hy
    obtain ⟨x, ex, rx⟩ := fitG.getV (f vs sl)
    obtain ⟨y, ey, ry⟩ := fit2.getV (f2 ws sm)
    have g2 : Grow NoM G' H' (upd G' t (.tup [v, w'])) (upd H' t (.tup [v, w'])) := (Grow.refl (hk i σ' G' H' w)).alloc hT
    exact ⟨t, _, rfl, SqT.of upd_same, rfl, _, _, rfl, _, _, rfl, rfl, hs G1 i x y v w' σ' G' H' _ _ (s'.trans g2.g) ex ey w g2 (T.mono (s'.trans g2.g) rx) (S.mono (s'.trans g2.g) ry)⟩
  · have e : i = ws.length := by omega
    subst e
    exact .inl ⟨⟨vs, ws, sl, sm, .inr (Nat.le_refl _)⟩, hd σ' G' H' (by rw [← fit2.length]; exact w)⟩
theorem q_while {t : TT} (W : Nat → SS → Hp → Hp → Prop) (m0 : Nat) (h0 : W m0 σ G H)
    (hs : ∀ m σ' G' H', W m σ' G' H' → Same G' H' ∧ ∃ b, EvB NoM t σ' G' H' b ∧ (b = true → ∀ G1 H1, Grow NoM G' H' G1 H1 → tu { D with nx := fun σ2 H2 => ∃ m' G2, m' < m ∧ W m' σ2 G2 H2, ct := fun σ2 H2 => ∃ m' G2, m' < m ∧ W m' σ2 G2 H2, bk := tz D } σ' H1) ∧
      (b = false → ∀ G1 H1, Grow NoM G' H' G1 H1 → tz D σ' H1)) : tSeq (tWhile t tu) tz D σ H := s_while (D := { D with nx := tz D }) W m0 h0 hs
end
end My

/-! Data that == compares. -/
namespace My
open PySem PySem.Spec PyProof.Rows L2
structure Dat (K : PySem.W.Frag) {α : Type} [DecidableEq α] (T : Ty α) where
  d : α → PyData
  dep : Nat
  dp : ∀ {x v G}, T.rel x v G → Dp K G v (d x)
  lay : ∀ x, (d x).canLay0 = true
  depth : ∀ x, (d x).depth ≤ dep
  eq : ∀ x y, PyData.eqv (d x) (d y) = decide (x = y)
section
variable {K : PySem.W.Frag} {α β : Type} [DecidableEq α] [DecidableEq β] {T : Ty α} {S : Ty β}
def datInt : Dat K tInt where
  d := .int
  dep := 0
  dp := fun {x v G} h => by cases h; exact .int x
  lay := fun _ => rfl
  depth := fun _ => Nat.le_refl _
  eq := fun x y => by show (x == y) = _; rw [Bool.beq_eq_decide_eq]
def datNat : Dat K tNat where
  d := fun n => .int (n : Int)
  dep := 0
  dp := fun {x v G} h => by cases h; exact .int x
  lay := fun _ => rfl
  depth := fun _ => Nat.le_refl _
  eq := fun x y => by
    show ((x : Int) == (y : Int)) = _
    rw [Bool.beq_eq_decide_eq]
    exact decide_eq_decide.mpr Int.ofNat_inj
def frD (q : Rat) : PyData := .tuple [.int q.num, .int (q.den : Int)]
theorem rat_eq {p q : Rat} : p = q ↔ p.num = q.num ∧ p.den = q.den := ⟨fun h => by subst h; exact ⟨rfl, rfl⟩, fun ⟨h1, h2⟩ => Rat.ext h1 h2⟩
def datFr : Dat K (tFr K) where
  d := frD
  dep := 1
  dp := fun {q v G} h => by
    obtain ⟨p, rfl, hp⟩ := h
    exact .tup hp (.cons (.int _) (.cons (.int _) .nil))
  lay := fun _ => rfl
  depth := fun q => by show max 0 (max 0 0) + 1 ≤ 1; decide
  eq := fun p q => by
    show ((p.num == q.num) && (((p.den : Int) == (q.den : Int)) && true)) = _
    rw [Bool.and_true, Bool.beq_eq_decide_eq, Bool.beq_eq_decide_eq, Bool.eq_iff_iff]
    simp only [Bool.and_eq_true, decide_eq_true_eq, Int.ofNat_inj]
    exact rat_eq.symm
theorem dp_all {dd : α → PyData} (h : ∀ {x v G}, T.rel x v G → Dp K G v (dd x)) : ∀ {vs : List V} {xs : List α} {G : Hp}, Fits T vs xs G → DpAll K G vs (xs.map dd)
  | [], [], _, _ => .nil
  | _ :: _, _ :: _, _, f => .cons (h f.1) (dp_all h f.2)
  | [], _ :: _, _, f => f.elim
  | _ :: _, [], _, f => f.elim
theorem lay_all {dd : α → PyData} (h : ∀ x, (dd x).canLay0 = true) : ∀ xs : List α, PyData.canLayAll0 (xs.map dd) = true
  | [] => rfl
  | x :: xs => by show ((dd x).canLay0 && PyData.canLayAll0 (xs.map dd)) = true; rw [h x, lay_all h xs]; rfl
theorem depth_all {dd : α → PyData} {n : Nat} (h : ∀ x, (dd x).depth ≤ n) : ∀ xs : List α, PyData.depthAll (xs.map dd) ≤ n
  | [] => Nat.zero_le _
  | x :: xs => by show max (dd x).depth (PyData.depthAll (xs.map dd)) ≤ n; exact Nat.max_le.mpr ⟨h x, depth_all h xs⟩
theorem eqv_all {dd : α → PyData} (h : ∀ x y, PyData.eqv (dd x) (dd y) = decide (x = y)) : ∀ xs ys : List α, PyData.eqvAll (xs.map dd) (ys.map dd) = decide (xs = ys)
  | [], [] => rfl
  | [], _ :: _ => rfl
  | _ :: _, [] => rfl
  | x :: xs, y :: ys => by
    show (PyData.eqv (dd x) (dd y) && PyData.eqvAll (xs.map dd) (ys.map dd)) = _
    rw [h x y, eqv_all h xs ys, Bool.eq_iff_iff]
    simp only [Bool.and_eq_true, decide_eq_true_eq, List.cons.injEq]
def datLs (D : Dat K T) : Dat K (tLs T) where
  d := fun xs => .list (xs.map D.d)
  dep := D.dep + 1
  dp := fun {xs v G} h => by
    obtain ⟨p, vs, rfl, hp, f⟩ := h
    exact .lst (SqL.of hp) (dp_all D.dp f)
  lay := fun xs => lay_all D.lay xs
  depth := fun xs => by show PyData.depthAll (xs.map D.d) + 1 ≤ _; exact Nat.succ_le_succ (depth_all D.depth xs)
  eq := fun xs ys => eqv_all D.eq xs ys
theorem shaped_of (D : Dat K T) (h : D.dep ≤ 64) (x : α) : SeqAt.shaped (D.d x) = true := by
  unfold SeqAt.shaped
  rw [D.lay x, decide_eq_true (Nat.le_trans (D.depth x) h)]
  rfl
variable {M : Addr → Prop} {σ : SS} {G H : Hp}
theorem ev_eqD (D : Dat K T) (h : D.dep ≤ 64 := by decide) {ta tb : TE} {x y : α} (ha : EvT M ta σ G H T x) (hb : EvT M tb σ G H T y) : EvT M (tOp (rEqD K) ta tb) σ G H tBool (decide (x = y)) :=
  ev_op ha hb fun v w G1 H1 s sg r1 r2 Q k => ⟨D.d x, D.d y, D.dp (T.mono s r1), D.dp (T.mono s r2), shaped_of D h x, shaped_of D h y, k _ G1 H1 (Grow.refl s) (congrArg V.bl (D.eq x y))⟩
theorem ev_neD (D : Dat K T) (h : D.dep ≤ 64 := by decide) {ta tb : TE} {x y : α} (ha : EvT M ta σ G H T x) (hb : EvT M tb σ G H T y) : EvT M (tOp (rNeD K) ta tb) σ G H tBool (!decide (x = y)) :=
  ev_op ha hb fun v w G1 H1 s sg r1 r2 Q k => ⟨D.d x, D.d y, D.dp (T.mono s r1), D.dp (T.mono s r2), shaped_of D h x, shaped_of D h y, k _ G1 H1 (Grow.refl s) (congrArg V.bl (congrArg not (D.eq x y)))⟩
omit [DecidableEq α] in
theorem ev_eqNil {ta : TE} {xs : List α} (ha : EvT M ta σ G H (tLs T) xs) : EvT M (tOp (rEqNil K) ta (tLst tNil)) σ G H tBool xs.isEmpty :=
  ev_op ha (ev_nilL (T := T)) fun v w G1 H1 s sg r1 r2 Q k => by
    obtain ⟨p, vs, rfl, hp, f⟩ := r1
    obtain ⟨q, ws, rfl, hq, f2⟩ := r2
    have e : ws = [] := by have := f2.length; simpa using this
    subst e
    refine ⟨p, q, vs, rfl, rfl, SqL.of (s p _ hp), SqL.of (s q _ hq), k _ G1 H1 (Grow.refl s) (congrArg V.bl ?_)⟩
    have := f.length
    cases vs <;> cases xs <;> simp_all
end
end My

/-! Data: lists that change, read. -/
namespace My
open PySem PySem.Spec PyProof.Rows L2
section
variable {M : Addr → Prop} {α β γ δ : Type} {σ : SS} {G H G1 H1 G2 H2 : Hp} {K : PySem.W.Frag} {T : Ty α} {S : Ty β} {U : Ty γ} {D : Ends} {tu tw tz : TS} {x : α} {y : β}
/-- len of a list that may change later -/
theorem ev_lenM {ta : TE} {l : Addr} {vs : List V} (hm : ¬ M l) (hl : H l = some (.lst vs)) (ha : EvT M ta σ G H tVal (.ref l)) : EvT M (tCB (rLenS K) (tCons ta tNil)) σ G H tInt (vs.length : Int) := fun G1 H1 g Q k => ha G1 H1 g _ fun v G2 H2 g2 r2 => by
  cases r2
  exact ⟨l, vs, rfl, .inl (SqL.of (g2.hh l _ (g.h l _ hm hl))), k _ G2 H2 g2 rfl⟩
theorem ev_ixM {ta tb : TE} {l : Addr} {vs : List V} {xs : List α} {i : Int} {j : Nat} (hm : ¬ M l) (hl : H l = some (.lst vs)) (f : Fits T vs xs G) (hi : i = (j : Int)) (hx : xs[j]? = some x) (ha : EvT M ta σ G H tVal (.ref l)) (hb : EvT M tb σ G H tInt i) :
    EvT M (tOp (rIxL K) ta tb) σ G H T x := fun G1 H1 g Q k => ha G1 H1 g _ fun v G2 H2 g2 r2 => hb G2 H2 (g.trans g2.up) _ fun w G3 H3 g3 r3 => by
  cases r2
  obtain ⟨u, e1, e2⟩ := f.get hx
  exact ⟨l, vs, i, u, rfl, r3, SqL.of (g3.hh l _ (g2.hh l _ (g.h l _ hm hl))), by rw [hi]; exact atI_nat e1, k _ G3 H3 (g2.trans g3) (T.mono ((g.g.trans g2.g).trans g3.g) e2)⟩
/-- a thing seen as if it changed no more, for a reading whose answer is no object -/
theorem ev_temp {te : TE} {l : Addr} {o : HO} (hm : ¬ M l) (hl : H l = some o) (hg : G l = none) (hU : ∀ v (z : γ) G G', U.rel z v G → U.rel z v G') {z : γ} (h : EvT M te σ (upd G l o) H U z) : EvT M te σ G H U z := fun G1 H1 g Q k => by
  have hl1 : H1 l = some o := g.h l _ hm hl
  have hg1 : G1 l = none := g.n l hg (ne_none_of hl)
  have g' : Grow M (upd G l o) H (upd G1 l o) H1 := ⟨fun a u e => by
    by_cases q : a = l
    · subst q; rw [upd_same] at e ⊢; exact e
    · rw [upd_ne q] at e ⊢; exact g.g a u e, g.h, fun a u e => by
    by_cases q : a = l
    · subst q; rw [upd_same] at e; cases e; exact hl1
    · rw [upd_ne q] at e; exact g.s a u e, fun a e1 e2 => by
    by_cases q : a = l
    · subst q; rw [upd_same] at e1; cases e1
    · rw [upd_ne q] at e1 ⊢; exact g.n a e1 e2, g.t⟩
  refine h (upd G1 l o) H1 g' Q fun v G2 H2 g2 r2 => k v G1 H2 ⟨Same.refl _, g2.h, fun a u e => g2.hh a u (g.s a u e), fun a e _ => e, g2.t⟩ (hU _ _ _ _ r2)
/-- l.insert(i, e) -/
theorem s_ins {ta ti te : TE} {l : Addr} {xs : List V} {j : Nat} (hl : H l = some (.lst xs)) (hz : xs.length < sizeLine) (hj : j ≤ 16777216) (ha : EvT NoM ta σ G H tVal (.ref l)) (hi : EvT NoM ti σ G H tInt (j : Int)) (he : EvT NoM te σ G H T x) (s : Same G H)
    (k : ∀ v G1 H1, Grow NoM G H G1 H1 → T.rel x v G1 → H1 l = some (.lst xs) → D.nx σ (upd H1 l (.lst (xs.take j ++ [v] ++ xs.drop j)))) : tDrop (tBM K "list" rInsert ta (tCons ti (tCons te tNil))) D σ H :=
  ha.go s fun v G1 H1 g1 r1 => by
    cases r1
    refine ⟨.inl ⟨rfl, _, SqL.of (g1.hh l _ hl)⟩, hi G1 H1 g1 _ fun u G2 H2 g2 r2 => he G2 H2 (g1.trans g2) _ fun w G3 H3 g3 r3 => ?_⟩
    have e := g3.hh l _ (g2.hh l _ (g1.hh l _ hl))
    refine ⟨l, xs, (j : Int), w, rfl, by rw [show u = V.int (j : Int) from r2], e, hz, by omega, Int.lt_of_le_of_lt (Int.ofNat_le.mpr hj) (by decide), ?_⟩
    have q := k w G3 H3 ((g1.trans g2).trans g3) r3 e
    rw [Int.toNat_natCast]
    exact q
/-- l.extend(new list) -/
theorem s_ext {ta te : TE} {l : Addr} {xs : List V} {ys : List α} (hl : H l = some (.lst xs)) (hz : xs.length + ys.length ≤ sizeLine) (ha : EvT NoM ta σ G H tVal (.ref l)) (he : EvM NoM te σ G H T ys) (s : Same G H)
    (k : ∀ vs G1 H1, Grow NoM G H G1 H1 → Fits T vs ys G1 → H1 l = some (.lst xs) → D.nx σ (upd H1 l (.lst (xs ++ vs)))) : tDrop (tBM K "list" rExtend ta (tCons te tNil)) D σ H :=
  ha.go s fun v G1 H1 g1 r1 => by
    cases r1
    refine ⟨.inl ⟨rfl, _, SqL.of (g1.hh l _ hl)⟩, he G1 H1 g1 _ fun p vs G2 H2 g2 hp hg e f => ?_⟩
    have e2 := g2.hh l _ (g1.hh l _ hl)
    exact ⟨l, p, xs, vs, rfl, rfl, e2, e, by rw [f.length]; exact hz, k vs G2 H2 (g1.trans g2) f e2⟩
theorem q_ext {ta te : TE} {l : Addr} {xs : List V} {ys : List α} (hl : H l = some (.lst xs)) (hz : xs.length + ys.length ≤ sizeLine) (ha : EvT NoM ta σ G H tVal (.ref l)) (he : EvM NoM te σ G H T ys) (s : Same G H)
    (k : ∀ vs G1 H1, Grow NoM G H G1 H1 → Fits T vs ys G1 → H1 l = some (.lst xs) → tz D σ (upd H1 l (.lst (xs ++ vs)))) : tSeq (tDrop (tBM K "list" rExtend ta (tCons te tNil))) tz D σ H := s_ext (D := { D with nx := tz D }) hl hz ha he s k
/-- l[a:b] = [e] -/
theorem q_setSl {te to tl th : TE} {l : Addr} {xs : List V} {ys : List α} {a c : Nat} (hl : H l = some (.lst xs)) (hac : a ≤ c) (han : a ≤ xs.length) (hz : xs.length + ys.length ≤ sizeLine) (he : EvM NoM te σ G H T ys) (ho : EvT NoM to σ G H tVal (.ref l))
    (h1 : EvT NoM tl σ G H tInt (a : Int)) (h2 : EvT NoM th σ G H tInt (c : Int)) (s : Same G H)
    (k : ∀ vs G1 H1, Grow NoM G H G1 H1 → Fits T vs ys G1 → H1 l = some (.lst xs) → tz D σ (upd H1 l (.lst (xs.take a ++ vs ++ xs.drop c)))) : tSeq (tSetSl te to tl th) tz D σ H :=
  he.go s fun p vs G1 H1 g1 hp hg e f => ho G1 H1 g1 _ fun v G2 H2 g2 r2 => by
    cases r2
    refine h1 G2 H2 (g1.trans g2) _ fun u G3 H3 g3 r3 => ⟨_, r3, h2 G3 H3 ((g1.trans g2).trans g3) _ fun t G4 H4 g4 r4 => ⟨_, r4, ?_⟩⟩
    have gg := ((g1.trans g2).trans g3).trans g4
    have e2 := gg.hh l _ hl
    have e3 : H4 p = some (.lst vs) := g4.hh p _ (g3.hh p _ (g2.hh p _ e))
    exact ⟨l, p, xs, vs, a, c, rfl, rfl, rfl, rfl, e2, e3, ne_of_none hl hp, hac, han, by rw [f.length]; exact hz, k vs G4 H4 gg (f.mono ((g2.g.trans g3.g).trans g4.g)) e2⟩
end
end My

/-! Data: tuples walked, ranges walked, isinstance, sums, sorted lists, repr. -/
namespace My
open PySem PySem.Spec PyProof.Rows L2
section
variable {M : Addr → Prop} {α β γ δ ε : Type} {σ : SS} {G H G1 H1 G2 H2 : Hp} {K : PySem.W.Frag} {T : Ty α} {S : Ty β} {U : Ty γ} {D : Ends} {tu tw tz : TS} {x : α} {y : β}
/-! ### comprehensions -/
/-- over a tuple -/
theorem em_lct {tl te : TE} {j : Nat} {vs0 : List Nat} {xs : List α} {f : α → β} (ha : EvT M tl σ G H (tTp K T) xs) (hz : xs.length ≤ 100000) (hw : ∀ x, wipe ((wipe σ vs0).set j (some x)) vs0 = wipe σ vs0)
    (he : ∀ x v G1 H1, x ∈ xs → Grow M G H G1 H1 → T.rel x v G1 → EvT M te ((wipe σ vs0).set j (some v)) G1 H1 S (f x)) :
    EvM M (tLc (iTup K tl) (gName j) tYes te vs0) σ G H S (xs.map f) := fun G1 H1 g Q k => ha G1 H1 g _ fun v G2 H2 g2 r2 => by
    obtain ⟨l, vs, rfl, hl, fit⟩ := r2
    refine ⟨l, rfl, ⟨vs, sqt_mono g2.s hl⟩, fun D hD => ?_⟩
    have hD2 : G2 D = none := Same.none g2.s hD
    refine lc_tup (K := K) (a := l) (xs := vs) (fun i H' => ∃ G' ws, Grow NoM G2 H2 G' H' ∧ G' D = none ∧ H' D = some (.lst ws) ∧ Fits S ws ((xs.take i).map f) G')
      ⟨G2, [], (Grow.refl g2.s).made hD, hD2, upd_same, True.intro⟩ (fun i H' _ ⟨G', ws, g3, _, _, _⟩ => sqt_mono g3.s (sqt_mono g3.g hl)) ?_ ?_
    · rintro i v H' hi ⟨G', ws, g3, hG, hH, ff⟩
      obtain ⟨x, ex, rx⟩ := fit.getV hi
      have hx : x ∈ xs := List.mem_of_getElem? ex
      have gg := (g.trans g2.up).trans (g3.up (M := M))
      have etake : xs.take (i + 1) = xs.take i ++ [x] := by rw [List.take_add_one, ex]; rfl
      refine ⟨hw v, ?_⟩
      show te _ H' _
      refine he x v G' H' hx gg (T.mono g3.g rx) G' H' (Grow.refl g3.s) _ fun y G5 H5 g5 r5 => ?_
      have hG5 : G5 D = none := g5.n D hG (ne_none_of hH)
      have hH5 : H5 D = some (.lst ws) := g5.hh D _ hH
      have lw : ws.length ≤ i := by
        rw [ff.length, List.length_map, List.length_take]
        omega
      have li : i < vs.length := (List.getElem?_eq_some_iff.mp hi).1
      rw [fit.length] at li
      refine ⟨ws, hH5, Nat.lt_of_le_of_lt lw (Nat.lt_of_lt_of_le li (Nat.le_trans hz (by decide))), G5, ws ++ [y], (g3.trans g5).mut hD hG5, hG5, upd_same, ?_⟩
      rw [etake, List.map_append]
      exact (ff.mono g5.g).append (Fits.one r5)
    · rintro H' ⟨G', ws, g3, hG, hH, ff⟩
      rw [fit.length, List.take_of_length_le (Nat.le_refl _)] at ff
      exact k D ws G' H' (g2.trans g3) (g2.new hD) hG hH ff
/-- over a range -/
theorem em_lcR {t1 t2 te : TE} {tt : TT} {j : Nat} {vs0 : List Nat} {lo hi : Int} {n : Nat} {p : Nat → Bool} {f : Nat → β} (h1 : EvT M t1 σ G H tInt lo) (h2 : EvT M t2 σ G H tInt hi) (hn : n = (hi - lo).toNat) (hz : n ≤ 100000) (hb : -(2 ^ 62) ≤ lo ∧ lo < 2 ^ 62 ∧ -(2 ^ 62) ≤ hi ∧ hi < 2 ^ 62)
    (hw : ∀ x, wipe ((wipe σ vs0).set j (some x)) vs0 = wipe σ vs0)
    (ht : ∀ i G1 H1, i < n → Grow M G H G1 H1 → EvB M tt ((wipe σ vs0).set j (some (.int (lo + i)))) G1 H1 (p i))
    (he : ∀ i G1 H1, i < n → p i = true → Grow M G H G1 H1 → EvT M te ((wipe σ vs0).set j (some (.int (lo + i)))) G1 H1 S (f i)) :
    EvM M (tLc (iRng2 (tCons t1 (tCons t2 tNil))) (gName j) tt te vs0) σ G H S (((List.range n).filter p).map f) := fun G1 H1 g Q k => h1 G1 H1 g _ fun v Ga Ha ga ra => h2 Ga Ha (g.trans ga.up) _ fun w G2 H2 gb rb => by
    cases ra
    cases rb
    have g2 := ga.trans gb
    refine ⟨lo, hi, rfl, hb, fun D hD => ?_⟩
    rw [← hn]
    have hD2 : G2 D = none := Same.none g2.s hD
    refine lc_range (fun i H' => ∃ G' ws, Grow NoM G2 H2 G' H' ∧ G' D = none ∧ H' D = some (.lst ws) ∧ Fits S ws (((List.range i).filter p).map f) G')
      ⟨G2, [], (Grow.refl g2.s).made hD, hD2, upd_same, True.intro⟩ ?_ ?_
    · rintro i H' hi ⟨G', ws, g3, hG, hH, ff⟩
      have gg := (g.trans g2.up).trans (g3.up (M := M))
      refine ⟨hw _, ?_⟩
      refine ht i G' H' hi gg G' H' (Grow.refl g3.s) _ fun G4 H4 g4 => ?_
      have hG4 : G4 D = none := g4.n D hG (ne_none_of hH)
      cases hp : p i with
      | false =>
        show ∃ G' ws, _
        exact ⟨G4, ws, g3.trans g4, hG4, g4.hh D _ hH, by rw [List.range_succ, List.filter_append, List.filter_cons, if_neg (by rw [hp]; decide), List.filter_nil, List.append_nil]; exact ff.mono g4.g⟩
      | true =>
        show te _ H4 _
        refine he i G4 H4 hi hp (gg.trans g4.up) G4 H4 (Grow.refl g4.s) _ fun y G5 H5 g5 r5 => ?_
        have hG5 : G5 D = none := g5.n D hG4 (ne_none_of (g4.hh D _ hH))
        have hH5 : H5 D = some (.lst ws) := g5.hh D _ (g4.hh D _ hH)
        have lw : ws.length ≤ i := by
          rw [ff.length, List.length_map]
          exact Nat.le_trans (List.length_filter_le _ _) (by rw [List.length_range]; exact Nat.le_refl _)
        refine ⟨ws, hH5, Nat.lt_of_le_of_lt lw (Nat.lt_of_lt_of_le hi (Nat.le_trans hz (by decide))), G5, ws ++ [y], ((g3.trans g4).trans g5).mut hD hG5, hG5, upd_same, ?_⟩
        rw [List.range_succ, List.filter_append, List.filter_cons, if_pos hp, List.filter_nil, List.map_append]
        exact (ff.mono (g4.g.trans g5.g)).append (Fits.one r5)
    · rintro H' ⟨G', ws, g3, hG, hH, ff⟩
      exact k D ws G' H' (g2.trans g3) (g2.new hD) hG hH ff
/-! ### for over a range -/
theorem s_rng {tl : TE} {g : TG} {n : Nat} (ha : EvT M tl σ G H tInt (n : Int)) (hn : n ≤ 100000000) (s : Same G H) (Iv : Nat → SS → Hp → Hp → Prop)
    (h0 : ∀ G1 H1, Grow NoM G H G1 H1 → Iv 0 σ G1 H1)
    (hs : ∀ G0 i σ' G' H', Same G0 G' → i < n → Iv i σ' G' H' → g (.int (i : Int)) σ' H' fun σ2 H2 => tu { D with nx := Nx Iv G0 (i + 1), ct := Nx Iv G0 (i + 1), bk := D.nx } σ2 H2)
    (hd : ∀ σ' G' H', Iv n σ' G' H' → D.nx σ' H') : tFor (iRng1 (tCons tl tNil)) g tu D σ H := ha.go s fun v G1 H1 g1 r1 => by
  cases r1
  refine ⟨(n : Int), rfl, by omega, by omega, ?_⟩
  rw [Int.toNat_natCast]
  refine for_range (Nx Iv G1) ⟨G1, Same.refl _, h0 G1 H1 g1⟩ (fun i σ' H' hi ⟨G', s', w⟩ => ?_) fun σ' H' ⟨G', _, w⟩ => hd σ' G' H' w
  have := hs G1 i σ' G' H' s' hi w
  rw [Int.zero_add]
  exact this
theorem q_rng {tl : TE} {g : TG} {n : Nat} (ha : EvT M tl σ G H tInt (n : Int)) (hn : n ≤ 100000000) (s : Same G H) (Iv : Nat → SS → Hp → Hp → Prop)
    (h0 : ∀ G1 H1, Grow NoM G H G1 H1 → Iv 0 σ G1 H1)
    (hs : ∀ G0 i σ' G' H', Same G0 G' → i < n → Iv i σ' G' H' → g (.int (i : Int)) σ' H' fun σ2 H2 => tu { D with nx := Nx Iv G0 (i + 1), ct := Nx Iv G0 (i + 1), bk := tz D } σ2 H2)
    (hd : ∀ σ' G' H', Iv n σ' G' H' → tz D σ' H') : tSeq (tFor (iRng1 (tCons tl tNil)) g tu) tz D σ H := s_rng (D := { D with nx := tz D }) ha hn s Iv h0 hs hd
/-! ### isinstance -/
theorem ev_isi {ta : TE} {n : String} {t : Value} {b : Bool} (ha : EvT M ta σ G H T x) (ht : ∀ v G H, Same G H → T.rel x v G → TyX K H v t) (hk : PySem.W.kitOne K t (.type n) = some b) : EvT M (tCB (rIsi K) (tCons ta (tCons (tC (.ty n)) tNil))) σ G H tBool b :=
  fun G1 H1 g Q k => ha G1 H1 g _ fun v G2 H2 g2 r2 => ⟨v, .ty n, t, .type n, b, rfl, .ty n, ht v G2 H2 g2.s r2, hk, k _ G2 H2 g2 rfl⟩
theorem ty_int {i : Int} : ∀ v G H, Same G H → tInt.rel i v G → TyX K H v (.type "int") := fun v G H _ r => by
  cases r
  exact .base (.int i)
theorem ty_tup {p : Addr} {xs : List V} {G H : Hp} (s : Same G H) (h : SqT K G p xs) : TyX K H (.ref p) (.type "tuple") := by
  rcases sqt_mono s h with h | ⟨o, its, n, h1, h2, _⟩
  · rcases h with h | ⟨o, h⟩
    · exact .base (.tup h)
    · exact .fTuple h
  · exact .kTuple h1 h2
theorem ty_lst {xs : List α} : ∀ v G H, Same G H → (tLs T).rel xs v G → TyX K H v (.type "list") := fun v G H s ⟨p, vs, e, h, _⟩ => by
  subst e
  exact .base (.lst (s p _ h))
/-! ### ints -/
theorem ev_ni {te : TE} {n : Nat} (h : EvT M te σ G H tNat n) : EvT M te σ G H tInt (n : Int) := h
theorem ev_in {te : TE} {n : Nat} (h : EvT M te σ G H tInt (n : Int)) : EvT M te σ G H tNat n := h
theorem fits_nat : ∀ {vs : List V} {ns : List Nat} {G : Hp}, Fits tNat vs ns G → vs = (ns.map fun n : Nat => (n : Int)).map V.int
  | [], [], _, _ => rfl
  | v :: vs, n :: ns, _, h => by rw [show v = V.int (n : Int) from h.1, fits_nat h.2]; rfl
  | [], _ :: _, _, h => h.elim
  | _ :: _, [], _, h => h.elim
theorem nat_fits : ∀ (ns : List Nat) {G : Hp}, Fits tNat ((ns.map fun n : Nat => (n : Int)).map V.int) ns G
  | [], _ => True.intro
  | n :: ns, _ => ⟨rfl, nat_fits ns⟩
theorem sum_cast : ∀ ns : List Nat, (ns.map fun n : Nat => (n : Int)).sum = (ns.sum : Int)
  | [] => rfl
  | n :: ns => by rw [List.map_cons, List.sum_cons, List.sum_cons, sum_cast ns]; omega
theorem ev_sum {ta : TE} {ns : List Nat} (ha : EvT M ta σ G H (tLs tNat) ns) : EvT M (tCB (rSum K) (tCons ta tNil)) σ G H tNat ns.sum := fun G1 H1 g Q k => ha G1 H1 g _ fun v G2 H2 g2 r2 => by
  obtain ⟨p, vs, rfl, hp, f⟩ := r2
  have e := fits_nat f
  subst e
  exact ⟨p, _, rfl, SqL.of (g2.s p _ hp), by rw [sum_cast]; exact k _ G2 H2 g2 rfl⟩
theorem ev_sumM {ta : TE} {l : Addr} {vs : List V} {ns : List Nat} (hm : ¬ M l) (hl : H l = some (.lst vs)) (f : Fits tNat vs ns G) (ha : EvT M ta σ G H tVal (.ref l)) : EvT M (tCB (rSum K) (tCons ta tNil)) σ G H tNat ns.sum := fun G1 H1 g Q k => ha G1 H1 g _ fun v G2 H2 g2 r2 => by
  cases r2
  have e := fits_nat f
  subst e
  exact ⟨l, _, rfl, SqL.of (g2.hh l _ (g.h l _ hm hl)), by rw [sum_cast]; exact k _ G2 H2 g2 rfl⟩
/-- from the greatest to the least -/
def sdL (ns : List Nat) : List Nat := ns.mergeSort fun a b => decide (b ≤ a)
theorem sdL_perm (ns : List Nat) : (sdL ns).Perm ns := List.mergeSort_perm _ _
theorem sdL_sorted (ns : List Nat) : (sdL ns).Pairwise fun a b => b ≤ a := by
  have := List.pairwise_mergeSort (le := fun a b : Nat => decide (b ≤ a)) (fun a b c h1 h2 => by simp at *; omega) (fun a b => by simp; omega) ns
  exact this.imp fun h => by simpa using h
theorem sdL_len (ns : List Nat) : (sdL ns).length = ns.length := (sdL_perm ns).length_eq
theorem sdL_eq {ns xs : List Nat} (h1 : xs.Perm ns) (h2 : xs.Pairwise fun a b => b ≤ a) : xs = sdL ns :=
  List.Perm.eq_of_pairwise (le := fun a b => b ≤ a) (fun a b _ _ h k => by omega) h2 (sdL_sorted ns) (h1.trans (sdL_perm ns).symm)
theorem sorted_ints {ns : List Nat} {ms : List Int} (hp : ms.Perm (ns.map fun n : Nat => (n : Int))) (ho : OrdB true ms) : ms = (sdL ns).map fun n : Nat => (n : Int) := by
  have h2 : ((sdL ns).map fun n : Nat => (n : Int)).Pairwise fun a b => a ≥ b := by
    rw [List.pairwise_map]
    exact (sdL_sorted ns).imp fun h => Int.ofNat_le.mpr h
  have ho' : ms.Pairwise (· ≥ ·) := ho
  exact List.Perm.eq_of_pairwise (le := fun a b : Int => a ≥ b) (fun a b _ _ h k => by omega) ho' h2 (hp.trans ((sdL_perm ns).symm.map _))
theorem em_sorted {ta : TE} {ns : List Nat} (ha : EvT M ta σ G H (tLs tNat) ns) : EvM M (tCKw (rSortedKw K true [.bl true]) (tCons ta tNil) (tCons (tC (.bl true)) tNil)) σ G H tNat (sdL ns) := fun G1 H1 g Q k => ha G1 H1 g _ fun v G2 H2 g2 r2 => by
  obtain ⟨p, vs, rfl, hp, f⟩ := r2
  have e := fits_nat f
  subst e
  refine ⟨p, _, rfl, rfl, SqL.of (g2.s p _ hp), fun ms q hms hord hq => ?_⟩
  have e := sorted_ints hms hord
  subst e
  exact k q _ G2 _ (g2.made hq) (g2.new hq) (Same.none g2.s hq) upd_same (nat_fits _)
theorem ev_sorted {ta : TE} {ns : List Nat} (ha : EvT M ta σ G H (tLs tNat) ns) : EvT M (tCKw (rSortedKw K true [.bl true]) (tCons ta tNil) (tCons (tC (.bl true)) tNil)) σ G H (tLs tNat) (sdL ns) := ev_newL (em_sorted ha)
/-! ### lists -/
theorem ev_isNil {ta : TE} {xs : List α} (he : xs = []) (ha : EvT M ta σ G H (tLs T) xs) : EvT M (tOp (rNeD K) ta (tLst tNil)) σ G H tBool false :=
  ev_op ha (ev_nilL (T := T)) fun v w G1 H1 s sg r1 r2 Q k => by
    subst he
    obtain ⟨p, vs, rfl, hp, f⟩ := r1
    obtain ⟨q, ws, rfl, hq, f2⟩ := r2
    have e : vs = [] := by have := f.length; simpa using this
    have e2 : ws = [] := by have := f2.length; simpa using this
    subst e
    subst e2
    exact ⟨.list [], .list [], .lst (SqL.of (s p _ hp)) .nil, .lst (SqL.of (s q _ hq)) .nil, rfl, rfl, k _ G1 H1 (Grow.refl s) rfl⟩
theorem fits_rep {v : V} {G : Hp} (h : T.rel x v G) : ∀ n, Fits T (List.replicate n v) (List.replicate n x) G
  | 0 => True.intro
  | n + 1 => ⟨h, fits_rep h n⟩
theorem rep_flat {α : Type} (v : α) : ∀ n, (List.replicate n [v]).flatten = List.replicate n v
  | 0 => rfl
  | n + 1 => by rw [List.replicate_succ, List.flatten_cons, rep_flat v n]; rfl
/-- [x] * n -/
theorem em_rep {te tn : TE} {n : Nat} (hn : n ≤ 100000) (ha : EvM M te σ G H T [x]) (hb : EvT M tn σ G H tInt (n : Int)) : EvM M (tOp rRep te tn) σ G H T (List.replicate n x) := fun G1 H1 g Q k => ha G1 H1 g _ fun p vs G2 H2 g2 hp hg e f => hb G2 H2 (g.trans g2.up) _ fun w G3 H3 g3 r3 => by
  cases r3
  match vs, f with
  | [v], f =>
    refine ⟨p, (n : Int), [v], rfl, rfl, g3.hh p _ e, by omega, by omega, by rw [Int.toNat_natCast, sizeLine_eq]; simp; omega, fun q hq => ?_⟩
    rw [Int.toNat_natCast, rep_flat]
    exact k q _ G3 _ ((g2.trans g3).made hq) ((g2.trans g3).new hq) (Same.none g3.s hq) upd_same (fits_rep (T.mono g3.g f.1) n)
/-- l[i] = e, l a list that changes -/
theorem s_setL {te tl ti : TE} {l : Addr} {xs : List V} {j : Nat} (hl : H l = some (.lst xs)) (hj : j < xs.length) (he : EvT NoM te σ G H T x) (ho : EvT NoM tl σ G H tVal (.ref l)) (hi : EvT NoM ti σ G H tInt (j : Int)) (s : Same G H)
    (k : ∀ v G1 H1, Grow NoM G H G1 H1 → T.rel x v G1 → H1 l = some (.lst xs) → D.nx σ (upd H1 l (.lst (xs.set j v)))) : tAsg te (gSub tl ti rSetL) D σ H :=
  he.go s fun v G1 H1 g1 r1 => ho G1 H1 g1 _ fun w G2 H2 g2 r2 => by
    cases r2
    refine hi G2 H2 (g1.trans g2) _ fun u G3 H3 g3 r3 => ?_
    have e := g3.hh l _ (g2.hh l _ (g1.hh l _ hl))
    refine ⟨l, xs, (j : Int), j, rfl, r3, e, ?_, k v G3 H3 ((g1.trans g2).trans g3) (T.mono (g2.g.trans g3.g) r1) e⟩
    unfold ixN
    simp
    omega
theorem q_setL {te tl ti : TE} {l : Addr} {xs : List V} {j : Nat} (hl : H l = some (.lst xs)) (hj : j < xs.length) (he : EvT NoM te σ G H T x) (ho : EvT NoM tl σ G H tVal (.ref l)) (hi : EvT NoM ti σ G H tInt (j : Int)) (s : Same G H)
    (k : ∀ v G1 H1, Grow NoM G H G1 H1 → T.rel x v G1 → H1 l = some (.lst xs) → tz D σ (upd H1 l (.lst (xs.set j v)))) : tSeq (tAsg te (gSub tl ti rSetL)) tz D σ H := s_setL (D := { D with nx := tz D }) hl hj he ho hi s k
/-- tuple(xs) -/
theorem ev_tupL {ta : TE} {xs : List α} (ha : EvT M ta σ G H (tLs T) xs) : EvT M (tCB (rTupS K) (tCons ta tNil)) σ G H (tTp K T) xs := fun G1 H1 g Q k => ha G1 H1 g _ fun v G2 H2 g2 r2 => by
  obtain ⟨p, vs, rfl, hp, f⟩ := r2
  refine ⟨p, vs, rfl, .inl ⟨SqL.of (g2.s p _ hp), fun l hl => ?_⟩⟩
  have e0 : G2 l = none := Same.none g2.s hl
  exact k _ _ _ (g2.alloc hl) ⟨l, vs, rfl, SqT.of upd_same, f.mono (same_upd e0)⟩
/-- x, y = (e, e2) -/
theorem q_tup2 {ta tb : TE} {i j : Nat} (ha : EvT M ta σ G H T x) (hb : EvT M tb σ G H S y) (s : Same G H) (k : ∀ v w G1 H1, Grow NoM G H G1 H1 → T.rel x v G1 → S.rel y w G1 → tz D ((σ.set i (some v)).set j (some w)) H1) :
    tSeq (tAsg (tTup (tCons ta (tCons tb tNil))) (gTup K 2 (gCons (gName i) (gCons (gName j) gNil)))) tz D σ H :=
  ha.go s fun v G1 H1 g1 r1 => hb G1 H1 g1.up _ fun w G2 H2 g2 r2 => ⟨by show 2 ≤ sizeLine; decide, fun p hp => by
    have e0 : G2 p = none := Same.none g2.s hp
    have g3 : Grow NoM G H (upd G2 p (.tup [v, w])) (upd H2 p (.tup [v, w])) := (g1.trans g2).alloc hp
    exact ⟨p, [v, w], rfl, SqT.of upd_same, rfl, _, _, rfl, _, _, rfl, rfl, k v w _ _ g3 (T.mono (g2.g.trans (same_upd e0)) r1) (S.mono (same_upd e0) r2)⟩⟩
/-! ### defs of four -/
def Spec4 (sp : Sp) (T : Ty α) (S : Ty β) (R : Ty δ) (P : Ty ε) (U : Ty γ) (x : α) (y : β) (t : δ) (s : ε) (z : γ) : Prop :=
  ∀ G H v w r p (Q : VK) (E : XK), Same G H → T.rel x v G → S.rel y w G → R.rel t r G → P.rel s p G → (∀ u G' H', Grow NoM G H G' H' → U.rel z u G' → Q u H') → sp [v, w, r, p] H Q E
theorem ev_call4 {sp : Sp} {E : XK} {R : Ty δ} {P : Ty ε} {ta tb tc td : TE} {x : α} {y : β} {t : δ} {s : ε} {z : γ} (hs : Spec4 sp T S R P U x y t s z) (ha : EvT M ta σ G H T x) (hb : EvT M tb σ G H S y) (hc : EvT M tc σ G H R t) (hd : EvT M td σ G H P s) :
    EvT M (tCall sp [] E (tCons ta (tCons tb (tCons tc (tCons td tNil))))) σ G H U z :=
  fun G1 H1 g Q k => ha G1 H1 g _ fun v G2 H2 g2 r2 => hb G2 H2 (g.trans g2.up) _ fun w G3 H3 g3 r3 => hc G3 H3 ((g.trans g2.up).trans g3.up) _ fun r G4 H4 g4 r4 => hd G4 H4 (((g.trans g2.up).trans g3.up).trans g4.up) _ fun p G5 H5 g5 r5 =>
    hs G5 H5 v w r p Q E g5.s (T.mono ((g3.g.trans g4.g).trans g5.g) r2) (S.mono (g4.g.trans g5.g) r3) (R.mono g5.g r4) r5 fun u G6 H6 g6 r6 => k u G6 H6 ((((g2.trans g3).trans g4).trans g5).trans g6) r6
/-- a chain of two comparisons of ints -/
theorem ev_chain {ta tb tc : TE} {i j l : Int} (ha : EvT M ta σ G H tInt i) (hb : EvT M tb σ G H tInt j) (hc : EvT M tc σ G H tInt l) : EvT M (tChain rLeI rLtI ta tb tc) σ G H tBool (decide (i ≤ j) && decide (j < l)) :=
  fun G1 H1 g Q k => ha G1 H1 g _ fun v G2 H2 g2 r2 => hb G2 H2 (g.trans g2.up) _ fun w G3 H3 g3 r3 => by
    cases r2
    cases r3
    refine ⟨i, j, rfl, rfl, decide (i ≤ j), rfl, ?_⟩
    by_cases c : i ≤ j
    · rw [decide_eq_true c, Bool.true_and] at k
      rw [if_pos (decide_eq_true c)]
      exact hc G3 H3 ((g.trans g2.up).trans g3.up) _ fun u G4 H4 g4 r4 => by
        cases r4
        exact ⟨j, l, rfl, rfl, k _ G4 H4 ((g2.trans g3).trans g4) rfl⟩
    · rw [decide_eq_false c, Bool.false_and] at k
      rw [if_neg (by simpa using c)]
      exact k _ G3 H3 (g2.trans g3) rfl
end
end My

namespace My
open PySem PySem.Spec PyProof.Rows L2
open He (ga ma)
def n_common_divisor : List Str := ["one", "other"]
/-- common_divisor(one, other) -/
def t_common_divisor (K : PySem.W.Frag) : TS :=
    (tSeq (tWhile (tTest (tOp rGtI (tVar 1) (tC (.int 0)))) (tPar 0 1 (tCons (tVar 1) (tCons (tOp rModI (tVar 0) (tVar 1)) tNil))))
    (tRet (tVar 0)))
def sp_common_divisor (K : PySem.W.Frag) : Sp := fun vs H Q _ => vs.length = 2 ∧ t_common_divisor K { nx := fun _ H' => Q .non H', rt := Q } (start n_common_divisor vs) H
def n_fraction : List Str := ["upper", "lower", "divisor"]
/-- fraction(upper, lower) -/
def t_fraction (K : PySem.W.Frag) : TS :=
    (tSeq (tAsg (tCall (sp_common_divisor K) [] E0 (tCons (tCB rAbsI (tCons (tVar 0) tNil)) (tCons (tVar 1) tNil))) (gName 2))
    (tRet (tTup (tCons (tOp rDivW (tVar 0) (tVar 2)) (tCons (tOp rDivW (tVar 1) (tVar 2)) tNil)))))
def sp_fraction (K : PySem.W.Frag) : Sp := fun vs H Q _ => vs.length = 2 ∧ t_fraction K { nx := fun _ H' => Q .non H', rt := Q } (start n_fraction vs) H
def n_is_less : List Str := ["one", "other"]
/-- is_less(one, other) -/
def t_is_less (K : PySem.W.Frag) : TS :=
    (tRet (tOp rLtI (tOp rMulW (tOp (rIxT K) (tVar 0) (tC (.int 0))) (tOp (rIxT K) (tVar 1) (tC (.int 1)))) (tOp rMulW (tOp (rIxT K) (tVar 1) (tC (.int 0))) (tOp (rIxT K) (tVar 0) (tC (.int 1))))))
def sp_is_less (K : PySem.W.Frag) : Sp := fun vs H Q _ => vs.length = 2 ∧ t_is_less K { nx := fun _ H' => Q .non H', rt := Q } (start n_is_less vs) H
def n_plus : List Str := ["one", "other"]
/-- plus(one, other) -/
def t_plus (K : PySem.W.Frag) : TS :=
    (tRet (tCall (sp_fraction K) [] E0 (tCons (tOp rAddI (tOp rMulW (tOp (rIxT K) (tVar 0) (tC (.int 0))) (tOp (rIxT K) (tVar 1) (tC (.int 1)))) (tOp rMulW (tOp (rIxT K) (tVar 1) (tC (.int 0))) (tOp (rIxT K) (tVar 0) (tC (.int 1))))) (tCons (tOp rMulW (tOp (rIxT K) (tVar 0) (tC (.int 1))) (tOp (rIxT K) (tVar 1) (tC (.int 1)))) tNil))))
def sp_plus (K : PySem.W.Frag) : Sp := fun vs H Q _ => vs.length = 2 ∧ t_plus K { nx := fun _ H' => Q .non H', rt := Q } (start n_plus vs) H
def n_minus : List Str := ["one", "other"]
/-- minus(one, other) -/
def t_minus (K : PySem.W.Frag) : TS :=
    (tRet (tCall (sp_fraction K) [] E0 (tCons (tOp rSubI (tOp rMulW (tOp (rIxT K) (tVar 0) (tC (.int 0))) (tOp (rIxT K) (tVar 1) (tC (.int 1)))) (tOp rMulW (tOp (rIxT K) (tVar 1) (tC (.int 0))) (tOp (rIxT K) (tVar 0) (tC (.int 1))))) (tCons (tOp rMulW (tOp (rIxT K) (tVar 0) (tC (.int 1))) (tOp (rIxT K) (tVar 1) (tC (.int 1)))) tNil))))
def sp_minus (K : PySem.W.Frag) : Sp := fun vs H Q _ => vs.length = 2 ∧ t_minus K { nx := fun _ H' => Q .non H', rt := Q } (start n_minus vs) H
def n_times : List Str := ["one", "other"]
/-- times(one, other) -/
def t_times (K : PySem.W.Frag) : TS :=
    (tRet (tCall (sp_fraction K) [] E0 (tCons (tOp rMulW (tOp (rIxT K) (tVar 0) (tC (.int 0))) (tOp (rIxT K) (tVar 1) (tC (.int 0)))) (tCons (tOp rMulW (tOp (rIxT K) (tVar 0) (tC (.int 1))) (tOp (rIxT K) (tVar 1) (tC (.int 1)))) tNil))))
def sp_times (K : PySem.W.Frag) : Sp := fun vs H Q _ => vs.length = 2 ∧ t_times K { nx := fun _ H' => Q .non H', rt := Q } (start n_times vs) H
def n_divided : List Str := ["one", "other"]
/-- divided(one, other) -/
def t_divided (K : PySem.W.Frag) : TS :=
    (tRet (tCall (sp_fraction K) [] E0 (tCons (tOp rMulW (tOp (rIxT K) (tVar 0) (tC (.int 0))) (tOp (rIxT K) (tVar 1) (tC (.int 1)))) (tCons (tOp rMulW (tOp (rIxT K) (tVar 0) (tC (.int 1))) (tOp (rIxT K) (tVar 1) (tC (.int 0)))) tNil))))
def sp_divided (K : PySem.W.Frag) : Sp := fun vs H Q _ => vs.length = 2 ∧ t_divided K { nx := fun _ H' => Q .non H', rt := Q } (start n_divided vs) H
def n_Segment_init : List Str := ["self", "opening", "closing", "rate", "owner"]
/-- Segment.__init__(self, opening, closing, rate, owner) -/
def t_Segment_init (K : PySem.W.Frag) : TS :=
    (tSeq (sFld K (tVar 0) (tVar 1) "opening")
    (tSeq (sFld K (tVar 0) (tVar 2) "closing")
    (tSeq (sFld K (tVar 0) (tVar 3) "rate")
    (sFld K (tVar 0) (tVar 4) "owner"))))
def sp_Segment_init (K : PySem.W.Frag) : Sp := fun vs H Q _ => vs.length = 5 ∧ t_Segment_init K { nx := fun _ H' => Q .non H', rt := Q } (start n_Segment_init vs) H
def n_Segment_content : List Str := ["self"]
/-- Segment.content(self) -/
def t_Segment_content (K : PySem.W.Frag) : TS :=
    (tRet (tCall (sp_times K) [] E0 (tCons (tFld K (tVar 0) "rate") (tCons (tCall (sp_minus K) [] E0 (tCons (tFld K (tVar 0) "closing") (tCons (tFld K (tVar 0) "opening") tNil))) tNil))))
def sp_Segment_content (K : PySem.W.Frag) : Sp := fun vs H Q _ => vs.length = 1 ∧ t_Segment_content K { nx := fun _ H' => Q .non H', rt := Q } (start n_Segment_content vs) H
def n_Segment_between : List Str := ["self", "first", "last"]
/-- Segment.between(self, first, last) -/
def t_Segment_between (K : PySem.W.Frag) : TS :=
    (tSeq (tAsg (tIf (tB (tCall (sp_is_less K) [] E0 (tCons (tFld K (tVar 0) "opening") (tCons (tVar 1) tNil)))) (tVar 1) (tFld K (tVar 0) "opening")) (gName 1))
    (tSeq (tAsg (tIf (tB (tCall (sp_is_less K) [] E0 (tCons (tVar 2) (tCons (tFld K (tVar 0) "closing") tNil)))) (tVar 2) (tFld K (tVar 0) "closing")) (gName 2))
    (tRet (tIf (tB (tCall (sp_is_less K) [] E0 (tCons (tVar 1) (tCons (tVar 2) tNil)))) (tMake (ga K "Segment") (sp_Segment_init K) [] E0 (tCons (tVar 1) (tCons (tVar 2) (tCons (tFld K (tVar 0) "rate") (tCons (tFld K (tVar 0) "owner") tNil))))) (tC .non)))))
def sp_Segment_between (K : PySem.W.Frag) : Sp := fun vs H Q _ => vs.length = 3 ∧ t_Segment_between K { nx := fun _ H' => Q .non H', rt := Q } (start n_Segment_between vs) H
def n_capacity_of : List Str := ["lane", "found", "segment"]
/-- capacity_of(lane) -/
def t_capacity_of (K : PySem.W.Frag) : TS :=
    (tSeq (tAsg (tC (.ref (ga K "ZERO"))) (gName 1))
    (tSeq (tFor (iList K (tVar 0)) (gName 2)
    (tAsg (tCall (sp_plus K) [] E0 (tCons (tVar 1) (tCons (tMeth (ga K "Segment") "content" (sp_Segment_content K) [] E0 (tVar 2) tNil) tNil))) (gName 1)))
    (tRet (tVar 1))))
def sp_capacity_of (K : PySem.W.Frag) : Sp := fun vs H Q _ => vs.length = 1 ∧ t_capacity_of K { nx := fun _ H' => Q .non H', rt := Q } (start n_capacity_of vs) H
def n_lane_between : List Str := ["lane", "first", "last", "parts", "segment", "part"]
/-- lane_between(lane, first, last) -/
def t_lane_between (K : PySem.W.Frag) : TS :=
    (tSeq (tAsg (tLc (iList K (tVar 0)) (gName 4) tYes (tMeth (ga K "Segment") "between" (sp_Segment_between K) [] E0 (tVar 4) (tCons (tVar 1) (tCons (tVar 2) tNil))) [4]) (gName 3))
    (tRet (tLc (iList K (tVar 3)) (gName 5) (tTest (tOp rNotN1 (tVar 5) (tC .non))) (tVar 5) [5])))
def sp_lane_between (K : PySem.W.Frag) : Sp := fun vs H Q _ => vs.length = 3 ∧ t_lane_between K { nx := fun _ H' => Q .non H', rt := Q } (start n_lane_between vs) H
def n_joined : List Str := ["first", "second", "last", "following"]
/-- joined(first, second) -/
def t_joined (K : PySem.W.Frag) : TS :=
    (tSeq (tIfS (tOr (tTest (tOp (rEqNil K) (tVar 0) (tLst tNil))) (tOr (tTest (tOp (rEqNil K) (tVar 1) (tLst tNil))) (tTest (tOp rNe (tFld K (tOp (rIxL K) (tVar 0) (tUn rNegI (tC (.int 1)))) "owner") (tFld K (tOp (rIxL K) (tVar 1) (tC (.int 0))) "owner"))))) (tRet (tOp rCat (tVar 0) (tVar 1)))
    tNext)
    (tSeq (tPar 2 3 (tCons (tOp (rIxL K) (tVar 0) (tUn rNegI (tC (.int 1)))) (tCons (tOp (rIxL K) (tVar 1) (tC (.int 0))) tNil)))
    (tRet (tOp rCat (tOp rCat (tSl (rSlL K) (tVar 0) tNoPart (tPart (tUn rNegI (tC (.int 1))))) (tLst (tCons (tMake (ga K "Segment") (sp_Segment_init K) [] E0 (tCons (tFld K (tVar 2) "opening") (tCons (tFld K (tVar 3) "closing") (tCons (tFld K (tVar 2) "rate") (tCons (tFld K (tVar 2) "owner") tNil))))) tNil))) (tSl (rSlL K) (tVar 1) (tPart (tC (.int 1))) tNoPart)))))
def sp_joined (K : PySem.W.Frag) : Sp := fun vs H Q _ => vs.length = 2 ∧ t_joined K { nx := fun _ H' => Q .non H', rt := Q } (start n_joined vs) H
def n_moments_of : List Str := ["fast", "slow", "left", "found", "least", "moment", "segment"]
/-- moments_of(fast, slow) -/
def t_moments_of (K : PySem.W.Frag) : TS :=
    (tSeq (tPar 2 3 (tCons (tLc (iList K (tOp rCat (tVar 0) (tVar 1))) (gName 6) tYes (tFld K (tVar 6) "closing") [6]) (tCons (tLst (tCons (tFld K (tOp (rIxL K) (tVar 0) (tC (.int 0))) "opening") tNil)) tNil)))
    (tSeq (tWhile (tTest (tOp (rNeD K) (tVar 2) (tLst tNil))) (tSeq (tAsg (tOp (rIxL K) (tVar 2) (tC (.int 0))) (gName 4))
    (tSeq (tFor (iList K (tVar 2)) (gName 5)
    (tAsg (tIf (tB (tCall (sp_is_less K) [] E0 (tCons (tVar 5) (tCons (tVar 4) tNil)))) (tVar 5) (tVar 4)) (gName 4)))
    (tSeq (tDrop (tBM K "list" rAppend (tVar 3) (tCons (tVar 4) tNil)))
    (tAsg (tLc (iList K (tVar 2)) (gName 5) (tTest (tOp (rNeD K) (tVar 5) (tVar 4))) (tVar 5) [5]) (gName 2))))))
    (tRet (tVar 3))))
def sp_moments_of (K : PySem.W.Frag) : Sp := fun vs H Q _ => vs.length = 2 ∧ t_moments_of K { nx := fun _ H' => Q .non H', rt := Q } (start n_moments_of vs) H
def n_rate_at : List Str := ["lane", "moment", "segment"]
/-- rate_at(lane, moment) -/
def t_rate_at (K : PySem.W.Frag) : TS :=
    (tSeq (tFor (iList K (tVar 0)) (gName 2)
    (tIfS (tB (tCall (sp_is_less K) [] E0 (tCons (tVar 1) (tCons (tFld K (tVar 2) "closing") tNil)))) (tRet (tFld K (tVar 2) "rate"))
    tNext))
    (tRet (tC (.ref (ga K "ZERO")))))
def sp_rate_at (K : PySem.W.Frag) : Sp := fun vs H Q _ => vs.length = 2 ∧ t_rate_at K { nx := fun _ H' => Q .non H', rt := Q } (start n_rate_at vs) H
def n_switch_moment : List Str := ["fast", "slow", "amount", "lacking", "moments", "first", "last", "more", "gain"]
/-- switch_moment(fast, slow, amount) -/
def t_switch_moment (K : PySem.W.Frag) : TS :=
    (tSeq (tPar 3 4 (tCons (tCall (sp_minus K) [] E0 (tCons (tVar 2) (tCons (tCall (sp_capacity_of K) [] E0 (tCons (tVar 1) tNil)) tNil))) (tCons (tCall (sp_moments_of K) [] E0 (tCons (tVar 0) (tCons (tVar 1) tNil))) tNil)))
    (tSeq (tFor (iZip K (tCons (tVar 4) (tCons (tSl (rSlL K) (tVar 4) (tPart (tC (.int 1))) tNoPart) tNil))) (gTup K 2 (gCons (gName 5) (gCons (gName 6) gNil)))
    (tSeq (tAsg (tCall (sp_minus K) [] E0 (tCons (tCall (sp_rate_at K) [] E0 (tCons (tVar 0) (tCons (tVar 5) tNil))) (tCons (tCall (sp_rate_at K) [] E0 (tCons (tVar 1) (tCons (tVar 5) tNil))) tNil))) (gName 7))
    (tSeq (tAsg (tCall (sp_times K) [] E0 (tCons (tVar 7) (tCons (tCall (sp_minus K) [] E0 (tCons (tVar 6) (tCons (tVar 5) tNil))) tNil))) (gName 8))
    (tSeq (tIfS (tNot (tB (tCall (sp_is_less K) [] E0 (tCons (tVar 8) (tCons (tVar 3) tNil))))) (tRet (tCall (sp_plus K) [] E0 (tCons (tVar 5) (tCons (tCall (sp_divided K) [] E0 (tCons (tVar 3) (tCons (tVar 7) tNil))) tNil))))
    tNext)
    (tAsg (tCall (sp_minus K) [] E0 (tCons (tVar 3) (tCons (tVar 8) tNil))) (gName 3))))))
    (tRet (tOp (rIxL K) (tVar 4) (tUn rNegI (tC (.int 1)))))))
def sp_switch_moment (K : PySem.W.Frag) : Sp := fun vs H Q _ => vs.length = 3 ∧ t_switch_moment K { nx := fun _ H' => Q .non H', rt := Q } (start n_switch_moment vs) H
def n_slowest_lane : List Str := ["lanes", "amount", "found", "at", "lane"]
/-- slowest_lane(lanes, amount) -/
def t_slowest_lane (K : PySem.W.Frag) : TS :=
    (tSeq (tAsg (tC .non) (gName 2))
    (tSeq (tFor (iEnum K (tCons (tVar 0) tNil)) (gTup K 2 (gCons (gName 3) (gCons (gName 4) gNil)))
    (tIfS (tNot (tB (tCall (sp_is_less K) [] E0 (tCons (tCall (sp_capacity_of K) [] E0 (tCons (tVar 4) tNil)) (tCons (tVar 1) tNil))))) (tAsg (tVar 3) (gName 2))
    tNext))
    (tRet (tVar 2))))
def sp_slowest_lane (K : PySem.W.Frag) : Sp := fun vs H Q _ => vs.length = 2 ∧ t_slowest_lane K { nx := fun _ H' => Q .non H', rt := Q } (start n_slowest_lane vs) H
def n_descending : List Str := ["values", "order", "at", "value", "place"]
/-- descending(values) -/
def t_descending (K : PySem.W.Frag) : TS :=
    (tSeq (tAsg (tLst tNil) (gName 1))
    (tSeq (tFor (iEnum K (tCons (tVar 0) tNil)) (gTup K 2 (gCons (gName 2) (gCons (gName 3) gNil)))
    (tSeq (tAsg (tCB (rLenS K) (tCons (tVar 1) tNil)) (gName 4))
    (tSeq (tWhile (tAnd (tTest (tOp rGtI (tVar 4) (tC (.int 0)))) (tB (tCall (sp_is_less K) [] E0 (tCons (tOp (rIxL K) (tVar 0) (tOp (rIxL K) (tVar 1) (tOp rSubI (tVar 4) (tC (.int 1))))) (tCons (tVar 3) tNil))))) (tAug 4 (tC (.int 1)) (ipI fun i j => i - j)))
    (tIfS (tB (tCall (sp_is_less K) [] E0 (tCons (tC (.ref (ga K "ZERO"))) (tCons (tVar 3) tNil)))) (tDrop (tBM K "list" rInsert (tVar 1) (tCons (tVar 4) (tCons (tVar 2) tNil))))
    tNext))))
    (tRet (tVar 1))))
def sp_descending (K : PySem.W.Frag) : Sp := fun vs H Q _ => vs.length = 1 ∧ t_descending K { nx := fun _ H' => Q .non H', rt := Q } (start n_descending vs) H
def n_cut_stretch : List Str := ["length", "speeds", "amounts", "lanes", "found", "work", "at", "fast", "slow", "moment", "used", "rest", "one"]
/-- cut_stretch(length, speeds, amounts) -/
def t_cut_stretch (K : PySem.W.Frag) : TS :=
    (tSeq (tAsg (tLc (iList K (tCall (sp_descending K) [] E0 (tCons (tVar 1) tNil))) (gName 6) tYes (tLst (tCons (tMake (ga K "Segment") (sp_Segment_init K) [] E0 (tCons (tC (.ref (ga K "ZERO"))) (tCons (tVar 0) (tCons (tOp (rIxL K) (tVar 1) (tVar 6)) (tCons (tVar 6) tNil))))) tNil)) [6]) (gName 3))
    (tSeq (tAsg (tLst tNil) (gName 4))
    (tSeq (tFor (iList K (tCall (sp_descending K) [] E0 (tCons (tVar 2) tNil))) (gName 5)
    (tSeq (tAsg (tCall (sp_slowest_lane K) [] E0 (tCons (tVar 3) (tCons (tOp (rIxL K) (tVar 2) (tVar 5)) tNil))) (gName 6))
    (tSeq (tIfS (tTest (tOp rIsN1 (tVar 6) (tC .non))) (tRet (tC .non))
    tNext)
    (tSeq (tAsg (tOp (rIxL K) (tVar 3) (tVar 6)) (gName 7))
    (tSeq (tAsg (tIf (tTest (tOp rLtI (tOp rAddI (tVar 6) (tC (.int 1))) (tCB (rLenS K) (tCons (tVar 3) tNil)))) (tOp (rIxL K) (tVar 3) (tOp rAddI (tVar 6) (tC (.int 1)))) (tLst (tCons (tMake (ga K "Segment") (sp_Segment_init K) [] E0 (tCons (tC (.ref (ga K "ZERO"))) (tCons (tVar 0) (tCons (tC (.ref (ga K "ZERO"))) (tCons (tC .non) tNil))))) tNil))) (gName 8))
    (tSeq (tAsg (tCall (sp_switch_moment K) [] E0 (tCons (tVar 7) (tCons (tVar 8) (tCons (tOp (rIxL K) (tVar 2) (tVar 5)) tNil)))) (gName 9))
    (tSeq (tAsg (tCall (sp_joined K) [] E0 (tCons (tCall (sp_lane_between K) [] E0 (tCons (tVar 7) (tCons (tC (.ref (ga K "ZERO"))) (tCons (tVar 9) tNil)))) (tCons (tCall (sp_lane_between K) [] E0 (tCons (tVar 8) (tCons (tVar 9) (tCons (tVar 0) tNil)))) tNil))) (gName 10))
    (tSeq (tAsg (tCall (sp_joined K) [] E0 (tCons (tCall (sp_lane_between K) [] E0 (tCons (tVar 8) (tCons (tC (.ref (ga K "ZERO"))) (tCons (tVar 9) tNil)))) (tCons (tCall (sp_lane_between K) [] E0 (tCons (tVar 7) (tCons (tVar 9) (tCons (tVar 0) tNil)))) tNil))) (gName 11))
    (tSeq (tSetSl (tLst (tCons (tVar 11) tNil)) (tVar 3) (tVar 6) (tOp rAddI (tVar 6) (tC (.int 2))))
    (tDrop (tBM K "list" rExtend (tVar 4) (tCons (tLc (iList K (tVar 10)) (gName 12) (tTest (tOp rNotN1 (tFld K (tVar 12) "owner") (tC .non))) (tTup (tCons (tVar 5) (tCons (tFld K (tVar 12) "owner") (tCons (tFld K (tVar 12) "opening") (tCons (tFld K (tVar 12) "closing") tNil))))) [12]) tNil))))))))))))
    (tRet (tVar 4)))))
def sp_cut_stretch (K : PySem.W.Frag) : Sp := fun vs H Q _ => vs.length = 3 ∧ t_cut_stretch K { nx := fun _ H' => Q .non H', rt := Q } (start n_cut_stretch vs) H
def n_stretch_plan : List Str := ["length", "speeds", "amounts", "speed", "amount"]
/-- stretch_plan(length, speeds, amounts) -/
def t_stretch_plan (K : PySem.W.Frag) : TS :=
    (tRet (tCall (sp_cut_stretch K) [] E0 (tCons (tTup (tCons (tVar 0) (tCons (tC (.int 1)) tNil))) (tCons (tLc (iSeq K (tVar 1)) (gName 3) tYes (tTup (tCons (tVar 3) (tCons (tC (.int 1)) tNil))) [3]) (tCons (tLc (iSeq K (tVar 2)) (gName 4) tYes (tTup (tCons (tVar 4) (tCons (tC (.int 1)) tNil))) [4]) tNil)))))
def sp_stretch_plan (K : PySem.W.Frag) : Sp := fun vs H Q _ => vs.length = 3 ∧ t_stretch_plan K { nx := fun _ H' => Q .non H', rt := Q } (start n_stretch_plan vs) H
def n_l_pen : List Str := ["_law_script"]
/-- _law_pen(_law_script) -/
def t_l_pen (K : PySem.W.Frag) : TS :=
    (tRet (tDisp (((tC (.str "cells")), (tCB (rListS K) (tCons (tSl (rSlL K) (tVar 0) tNoPart (tPart (tC (.int 63)))) tNil))) :: (((tC (.str "at")), (tC (.int 0))) :: (((tC (.str "rest")), (tC (.int 0))) :: [])))))
def sp_l_pen (K : PySem.W.Frag) : Sp := fun vs H Q _ => vs.length = 1 ∧ t_l_pen K { nx := fun _ H' => Q .non H', rt := Q } (start n_l_pen vs) H
def n_l_draw : List Str := ["_law_pen_here", "_law_many", "_law_digit", "_law_at", "_law_cell", "_law_mixed"]
/-- _law_draw(_law_pen_here, _law_many) -/
def t_l_draw (K : PySem.W.Frag) : TS :=
    (tSeq (tIfS (tTest (tOp rGtI (tDGet (tVar 0) (tC (.str "rest"))) (tC (.int 0)))) (tSeq (tAsg (tOp rModI (tDGet (tVar 0) (tC (.str "rest"))) (tVar 1)) (gName 2))
    (tSeq (sDPut (tVar 0) (tC (.str "rest")) (tOp rDivW (tDGet (tVar 0) (tC (.str "rest"))) (tVar 1)))
    (tRet (tVar 2))))
    tNext)
    (tSeq (tAsg (tDGet (tVar 0) (tC (.str "at"))) (gName 3))
    (tSeq (sDPut (tVar 0) (tC (.str "at")) (tOp rAddI (tVar 3) (tC (.int 1))))
    (tSeq (tAsg (tOp rAddI (tOp rMulW (tC (.int 31)) (tVar 3)) (tC (.int 11))) (gName 4))
    (tSeq (tIfS (tTest (tOp (rNeD K) (tDGet (tVar 0) (tC (.str "cells"))) (tLst tNil))) (tAsg (tOp (rIxL K) (tDGet (tVar 0) (tC (.str "cells"))) (tOp rModI (tVar 3) (tCB (rLenS K) (tCons (tDGet (tVar 0) (tC (.str "cells"))) tNil)))) (gName 4))
    tNext)
    (tSeq (tIfS (tAnd (tTest (tOp rLtI (tVar 3) (tCB (rLenS K) (tCons (tDGet (tVar 0) (tC (.str "cells"))) tNil)))) (tTest (tOp rGeI (tCB rAbsI (tCons (tVar 4) tNil)) (tOp rPowI (tC (.int 10)) (tC (.int 18)))))) (tSeq (sDPut (tVar 0) (tC (.str "rest")) (tOp rDivW (tOp rSubI (tCB rAbsI (tCons (tVar 4) tNil)) (tOp rPowI (tC (.int 10)) (tC (.int 18)))) (tVar 1)))
    (tRet (tOp rModI (tOp rSubI (tCB rAbsI (tCons (tVar 4) tNil)) (tOp rPowI (tC (.int 10)) (tC (.int 18)))) (tVar 1))))
    tNext)
    (tSeq (tAsg (tOp rModI (tOp rAddI (tOp rAddI (tOp rAddI (tOp rMulW (tOp rModI (tVar 4) (tC (.int 2147483629))) (tC (.int 69621))) (tOp rMulW (tOp rMulW (tC (.int 40014)) (tVar 3)) (tVar 3))) (tOp rMulW (tC (.int 7919)) (tVar 3))) (tC (.int 12345))) (tC (.int 2147483587))) (gName 5))
    (tSeq (tAsg (tOp rModI (tOp rMulW (tVar 5) (tOp rAddI (tVar 5) (tC (.int 16807)))) (tC (.int 2147483563))) (gName 5))
    (tRet (tOp rModI (tOp rDivW (tOp rModI (tOp rMulW (tVar 5) (tVar 5)) (tC (.int 2147483647))) (tC (.int 128))) (tVar 1)))))))))))
def sp_l_draw (K : PySem.W.Frag) : Sp := fun vs H Q _ => vs.length = 2 ∧ t_l_draw K { nx := fun _ H' => Q .non H', rt := Q } (start n_l_draw vs) H
def n_l_pick : List Str := ["_law_pen_here", "_law_items"]
/-- _law_pick(_law_pen_here, _law_items) -/
def t_l_pick (K : PySem.W.Frag) : TS :=
    (tRet (tOp (rIxL K) (tVar 1) (tCall (sp_l_draw K) [] E0 (tCons (tVar 0) (tCons (tCB (rLenS K) (tCons (tVar 1) tNil)) tNil)))))
def sp_l_pick (K : PySem.W.Frag) : Sp := fun vs H Q _ => vs.length = 2 ∧ t_l_pick K { nx := fun _ H' => Q .non H', rt := Q } (start n_l_pick vs) H
def n_l_shuffled : List Str := ["_law_pen_here", "_law_items", "_law_left", "_law_found"]
/-- _law_shuffled(_law_pen_here, _law_items) -/
def t_l_shuffled (K : PySem.W.Frag) : TS :=
    (tSeq (tPar 2 3 (tCons (tCB (rListS K) (tCons (tVar 1) tNil)) (tCons (tLst tNil) tNil)))
    (tSeq (tWhile (tTest (tOp (rNeD K) (tVar 2) (tLst tNil))) (tDrop (tBM K "list" rAppend (tVar 3) (tCons (tBM K "list" rPopAt (tVar 2) (tCons (tCall (sp_l_draw K) [] E0 (tCons (tVar 0) (tCons (tCB (rLenS K) (tCons (tVar 2) tNil)) tNil))) tNil)) tNil))))
    (tRet (tVar 3))))
def sp_l_shuffled (K : PySem.W.Frag) : Sp := fun vs H Q _ => vs.length = 2 ∧ t_l_shuffled K { nx := fun _ H' => Q .non H', rt := Q } (start n_l_shuffled vs) H
def n_l_gcd : List Str := ["_law_one", "_law_two"]
/-- _law_gcd(_law_one, _law_two) -/
def t_l_gcd (K : PySem.W.Frag) : TS :=
    (tSeq (tWhile (tTest (tOp rGtI (tVar 1) (tC (.int 0)))) (tPar 0 1 (tCons (tVar 1) (tCons (tOp rModI (tVar 0) (tVar 1)) tNil))))
    (tRet (tVar 0)))
def sp_l_gcd (K : PySem.W.Frag) : Sp := fun vs H Q _ => vs.length = 2 ∧ t_l_gcd K { nx := fun _ H' => Q .non H', rt := Q } (start n_l_gcd vs) H
def n_l_fraction : List Str := ["_law_upper", "_law_lower", "_law_both"]
/-- _law_fraction(_law_upper, _law_lower) -/
def t_l_fraction (K : PySem.W.Frag) : TS :=
    (tSeq (tAsg (tCall (sp_l_gcd K) [] E0 (tCons (tCB rAbsI (tCons (tVar 0) tNil)) (tCons (tVar 1) tNil))) (gName 2))
    (tRet (tTup (tCons (tOp rDivW (tVar 0) (tVar 2)) (tCons (tOp rDivW (tVar 1) (tVar 2)) tNil)))))
def sp_l_fraction (K : PySem.W.Frag) : Sp := fun vs H Q _ => vs.length = 2 ∧ t_l_fraction K { nx := fun _ H' => Q .non H', rt := Q } (start n_l_fraction vs) H
def n_l_less : List Str := ["_law_one", "_law_two"]
/-- _law_less(_law_one, _law_two) -/
def t_l_less (K : PySem.W.Frag) : TS :=
    (tRet (tOp rLtI (tOp rMulW (tOp (rIxT K) (tVar 0) (tC (.int 0))) (tOp (rIxT K) (tVar 1) (tC (.int 1)))) (tOp rMulW (tOp (rIxT K) (tVar 1) (tC (.int 0))) (tOp (rIxT K) (tVar 0) (tC (.int 1))))))
def sp_l_less (K : PySem.W.Frag) : Sp := fun vs H Q _ => vs.length = 2 ∧ t_l_less K { nx := fun _ H' => Q .non H', rt := Q } (start n_l_less vs) H
def n_l_plus : List Str := ["_law_one", "_law_two"]
/-- _law_plus(_law_one, _law_two) -/
def t_l_plus (K : PySem.W.Frag) : TS :=
    (tRet (tCall (sp_l_fraction K) [] E0 (tCons (tOp rAddI (tOp rMulW (tOp (rIxT K) (tVar 0) (tC (.int 0))) (tOp (rIxT K) (tVar 1) (tC (.int 1)))) (tOp rMulW (tOp (rIxT K) (tVar 1) (tC (.int 0))) (tOp (rIxT K) (tVar 0) (tC (.int 1))))) (tCons (tOp rMulW (tOp (rIxT K) (tVar 0) (tC (.int 1))) (tOp (rIxT K) (tVar 1) (tC (.int 1)))) tNil))))
def sp_l_plus (K : PySem.W.Frag) : Sp := fun vs H Q _ => vs.length = 2 ∧ t_l_plus K { nx := fun _ H' => Q .non H', rt := Q } (start n_l_plus vs) H
def n_l_minus : List Str := ["_law_one", "_law_two"]
/-- _law_minus(_law_one, _law_two) -/
def t_l_minus (K : PySem.W.Frag) : TS :=
    (tRet (tCall (sp_l_fraction K) [] E0 (tCons (tOp rSubI (tOp rMulW (tOp (rIxT K) (tVar 0) (tC (.int 0))) (tOp (rIxT K) (tVar 1) (tC (.int 1)))) (tOp rMulW (tOp (rIxT K) (tVar 1) (tC (.int 0))) (tOp (rIxT K) (tVar 0) (tC (.int 1))))) (tCons (tOp rMulW (tOp (rIxT K) (tVar 0) (tC (.int 1))) (tOp (rIxT K) (tVar 1) (tC (.int 1)))) tNil))))
def sp_l_minus (K : PySem.W.Frag) : Sp := fun vs H Q _ => vs.length = 2 ∧ t_l_minus K { nx := fun _ H' => Q .non H', rt := Q } (start n_l_minus vs) H
def n_l_times : List Str := ["_law_one", "_law_two"]
/-- _law_times(_law_one, _law_two) -/
def t_l_times (K : PySem.W.Frag) : TS :=
    (tRet (tCall (sp_l_fraction K) [] E0 (tCons (tOp rMulW (tOp (rIxT K) (tVar 0) (tC (.int 0))) (tOp (rIxT K) (tVar 1) (tC (.int 0)))) (tCons (tOp rMulW (tOp (rIxT K) (tVar 0) (tC (.int 1))) (tOp (rIxT K) (tVar 1) (tC (.int 1)))) tNil))))
def sp_l_times (K : PySem.W.Frag) : Sp := fun vs H Q _ => vs.length = 2 ∧ t_l_times K { nx := fun _ H' => Q .non H', rt := Q } (start n_l_times vs) H
def n_l_is_int : List Str := ["_law_thing"]
/-- _law_is_int(_law_thing) -/
def t_l_is_int (K : PySem.W.Frag) : TS :=
    (tRet (tAndV (tCB (rIsi K) (tCons (tVar 0) (tCons (tC (.ty "int")) tNil))) (tNotV (tCB (rIsi K) (tCons (tVar 0) (tCons (tC (.ty "bool")) tNil))))))
def sp_l_is_int (K : PySem.W.Frag) : Sp := fun vs H Q _ => vs.length = 1 ∧ t_l_is_int K { nx := fun _ H' => Q .non H', rt := Q } (start n_l_is_int vs) H
def n_l_is_fraction : List Str := ["_law_thing"]
/-- _law_is_fraction(_law_thing) -/
def t_l_is_fraction (K : PySem.W.Frag) : TS :=
    (tSeq (tIfS (tOr (tNot (tB (tCB (rIsi K) (tCons (tVar 0) (tCons (tC (.ty "tuple")) tNil))))) (tOr (tTest (tOp rNe (tCB (rLenS K) (tCons (tVar 0) tNil)) (tC (.int 2)))) (tOr (tNot (tB (tCall (sp_l_is_int K) [] E0 (tCons (tOp (rIxT K) (tVar 0) (tC (.int 0))) tNil)))) (tNot (tB (tCall (sp_l_is_int K) [] E0 (tCons (tOp (rIxT K) (tVar 0) (tC (.int 1))) tNil))))))) (tRet (tC (.bl false)))
    tNext)
    (tRet (tAndV (tOp rGtI (tOp (rIxT K) (tVar 0) (tC (.int 1))) (tC (.int 0))) (tOp rEq (tCall (sp_l_gcd K) [] E0 (tCons (tCB rAbsI (tCons (tOp (rIxT K) (tVar 0) (tC (.int 0))) tNil)) (tCons (tOp (rIxT K) (tVar 0) (tC (.int 1))) tNil))) (tC (.int 1))))))
def sp_l_is_fraction (K : PySem.W.Frag) : Sp := fun vs H Q _ => vs.length = 1 ∧ t_l_is_fraction K { nx := fun _ H' => Q .non H', rt := Q } (start n_l_is_fraction vs) H
def n_l_overlap : List Str := ["_law_one", "_law_two"]
/-- _law_overlap(_law_one, _law_two) -/
def t_l_overlap (K : PySem.W.Frag) : TS :=
    (tRet (tAndV (tCall (sp_l_less K) [] E0 (tCons (tOp (rIxT K) (tVar 0) (tC (.int 2))) (tCons (tOp (rIxT K) (tVar 1) (tC (.int 3))) tNil))) (tCall (sp_l_less K) [] E0 (tCons (tOp (rIxT K) (tVar 1) (tC (.int 2))) (tCons (tOp (rIxT K) (tVar 0) (tC (.int 3))) tNil)))))
def sp_l_overlap (K : PySem.W.Frag) : Sp := fun vs H Q _ => vs.length = 2 ∧ t_l_overlap K { nx := fun _ H' => Q .non H', rt := Q } (start n_l_overlap vs) H
def n_l_can : List Str := ["_law_length", "_law_speeds", "_law_amounts", "_law_fast", "_law_large", "_law_k"]
/-- _law_can(_law_length, _law_speeds, _law_amounts) -/
def t_l_can (K : PySem.W.Frag) : TS :=
    (tSeq (tAsg (tTup (tCons (tCKw (rSortedKw K true [.bl true]) (tCons (tVar 1) tNil) (tCons (tC (.bl true)) tNil)) (tCons (tCKw (rSortedKw K true [.bl true]) (tCons (tVar 2) tNil) (tCons (tC (.bl true)) tNil)) tNil))) (gTup K 2 (gCons (gName 3) (gCons (gName 4) gNil))))
    (tRet (tOp (rEqD K) (tLc (iRng2 (tCons (tC (.int 1)) (tCons (tOp rAddI (tCB (rLenS K) (tCons (tVar 4) tNil)) (tC (.int 1))) tNil))) (gName 5) (tTest (tOp rGtI (tCB (rSum K) (tCons (tSl (rSlL K) (tVar 4) tNoPart (tPart (tVar 5))) tNil)) (tOp rMulW (tVar 0) (tCB (rSum K) (tCons (tSl (rSlL K) (tVar 3) tNoPart (tPart (tVar 5))) tNil))))) (tVar 5) [5]) (tLst tNil))))
def sp_l_can (K : PySem.W.Frag) : Sp := fun vs H Q _ => vs.length = 3 ∧ t_l_can K { nx := fun _ H' => Q .non H', rt := Q } (start n_l_can vs) H
def n_l_poured : List Str := ["_law_length", "_law_speeds", "_law_amounts", "_law_fast", "_law_found", "_law_amount"]
/-- _law_poured(_law_length, _law_speeds, _law_amounts) -/
def t_l_poured (K : PySem.W.Frag) : TS :=
    (tSeq (tPar 3 4 (tCons (tCKw (rSortedKw K true [.bl true]) (tCons (tVar 1) tNil) (tCons (tC (.bl true)) tNil)) (tCons (tLst tNil) tNil)))
    (tSeq (tFor (iList K (tCKw (rSortedKw K true [.bl true]) (tCons (tVar 2) tNil) (tCons (tC (.bl true)) tNil))) (gName 5)
    (tDrop (tBM K "list" rAppend (tVar 4) (tCons (tCB rMin2 (tCons (tVar 5) (tCons (tOp rSubI (tOp rMulW (tVar 0) (tCB (rSum K) (tCons (tSl (rSlL K) (tVar 3) tNoPart (tPart (tOp rAddI (tCB (rLenS K) (tCons (tVar 4) tNil)) (tC (.int 1))))) tNil))) (tCB (rSum K) (tCons (tVar 4) tNil))) tNil))) tNil))))
    (tRet (tVar 4))))
def sp_l_poured (K : PySem.W.Frag) : Sp := fun vs H Q _ => vs.length = 3 ∧ t_l_poured K { nx := fun _ H' => Q .non H', rt := Q } (start n_l_poured vs) H
def n_l_is_in_stretch : List Str := ["_law_length", "_law_speeds", "_law_amounts", "_law_row"]
/-- _law_is_in_stretch(_law_length, _law_speeds, _law_amounts, _law_row) -/
def t_l_is_in_stretch (K : PySem.W.Frag) : TS :=
    (tSeq (tIfS (tOr (tNot (tB (tCB (rIsi K) (tCons (tVar 3) (tCons (tC (.ty "tuple")) tNil))))) (tOr (tTest (tOp rNe (tCB (rLenS K) (tCons (tVar 3) tNil)) (tC (.int 4)))) (tOr (tNot (tB (tCall (sp_l_is_int K) [] E0 (tCons (tOp (rIxT K) (tVar 3) (tC (.int 0))) tNil)))) (tNot (tB (tCall (sp_l_is_int K) [] E0 (tCons (tOp (rIxT K) (tVar 3) (tC (.int 1))) tNil))))))) (tRet (tC (.bl false)))
    tNext)
    (tSeq (tIfS (tOr (tNot (tTest (tChain rLeI rLtI (tC (.int 0)) (tOp (rIxT K) (tVar 3) (tC (.int 0))) (tCB (rLenS K) (tCons (tVar 2) tNil))))) (tNot (tTest (tChain rLeI rLtI (tC (.int 0)) (tOp (rIxT K) (tVar 3) (tC (.int 1))) (tCB (rLenS K) (tCons (tVar 1) tNil)))))) (tRet (tC (.bl false)))
    tNext)
    (tSeq (tIfS (tOr (tNot (tB (tCall (sp_l_is_fraction K) [] E0 (tCons (tOp (rIxT K) (tVar 3) (tC (.int 2))) tNil)))) (tOr (tNot (tB (tCall (sp_l_is_fraction K) [] E0 (tCons (tOp (rIxT K) (tVar 3) (tC (.int 3))) tNil)))) (tNot (tB (tCall (sp_l_less K) [] E0 (tCons (tOp (rIxT K) (tVar 3) (tC (.int 2))) (tCons (tOp (rIxT K) (tVar 3) (tC (.int 3))) tNil))))))) (tRet (tC (.bl false)))
    tNext)
    (tRet (tAndV (tOp rGeI (tOp (rIxT K) (tOp (rIxT K) (tVar 3) (tC (.int 2))) (tC (.int 0))) (tC (.int 0))) (tNotV (tCall (sp_l_less K) [] E0 (tCons (tTup (tCons (tVar 0) (tCons (tC (.int 1)) tNil))) (tCons (tOp (rIxT K) (tVar 3) (tC (.int 3))) tNil)))))))))
def sp_l_is_in_stretch (K : PySem.W.Frag) : Sp := fun vs H Q _ => vs.length = 4 ∧ t_l_is_in_stretch K { nx := fun _ H' => Q .non H', rt := Q } (start n_l_is_in_stretch vs) H
def n_l_does_stretch : List Str := ["_law_length", "_law_speeds", "_law_amounts", "_law_told", "_law_k", "_law_one", "_law_meets", "_law_done", "_law_work", "_law_bench", "_law_start", "_law_end", "_law_row", "_law_amount"]
/-- _law_does_stretch(_law_length, _law_speeds, _law_amounts, _law_told) -/
def t_l_does_stretch (K : PySem.W.Frag) : TS :=
    (tSeq (tIfS (tNot (tB (tCB (rIsi K) (tCons (tVar 3) (tCons (tC (.ty "list")) tNil))))) (tRet (tC (.bl false)))
    tNext)
    (tSeq (tIfS (tTest (tOp (rNeD K) (tLc (iList K (tVar 3)) (gName 12) (tNot (tB (tCall (sp_l_is_in_stretch K) [] E0 (tCons (tVar 0) (tCons (tVar 1) (tCons (tVar 2) (tCons (tVar 12) tNil))))))) (tVar 12) [12]) (tLst tNil))) (tRet (tC (.bl false)))
    tNext)
    (tSeq (tFor (iRng1 (tCons (tCB (rLenS K) (tCons (tVar 3) tNil)) tNil)) (gName 4)
    (tSeq (tAsg (tOp (rIxL K) (tVar 3) (tVar 4)) (gName 5))
    (tSeq (tAsg (tLc (iList K (tSl (rSlL K) (tVar 3) (tPart (tOp rAddI (tVar 4) (tC (.int 1)))) tNoPart)) (gName 12) (tAnd (tOr (tTest (tOp rEq (tOp (rIxT K) (tVar 12) (tC (.int 0))) (tOp (rIxT K) (tVar 5) (tC (.int 0))))) (tTest (tOp rEq (tOp (rIxT K) (tVar 12) (tC (.int 1))) (tOp (rIxT K) (tVar 5) (tC (.int 1)))))) (tB (tCall (sp_l_overlap K) [] E0 (tCons (tVar 5) (tCons (tVar 12) tNil))))) (tVar 12) [12]) (gName 6))
    (tIfS (tTest (tOp (rNeD K) (tVar 6) (tLst tNil))) (tRet (tC (.bl false)))
    tNext))))
    (tSeq (tAsg (tOp rRep (tLst (tCons (tTup (tCons (tC (.int 0)) (tCons (tC (.int 1)) tNil))) tNil)) (tCB (rLenS K) (tCons (tVar 2) tNil))) (gName 7))
    (tSeq (tFor (iList K (tVar 3)) (gTup K 4 (gCons (gName 8) (gCons (gName 9) (gCons (gName 10) (gCons (gName 11) gNil)))))
    (tAsg (tCall (sp_l_plus K) [] E0 (tCons (tOp (rIxL K) (tVar 7) (tVar 8)) (tCons (tCall (sp_l_times K) [] E0 (tCons (tTup (tCons (tOp (rIxL K) (tVar 1) (tVar 9)) (tCons (tC (.int 1)) tNil))) (tCons (tCall (sp_l_minus K) [] E0 (tCons (tVar 11) (tCons (tVar 10) tNil))) tNil))) tNil))) (gSub (tVar 7) (tVar 8) rSetL)))
    (tSeq (tIfS (tTest (tOp (rNeD K) (tVar 7) (tLc (iList K (tVar 2)) (gName 13) tYes (tTup (tCons (tVar 13) (tCons (tC (.int 1)) tNil))) [13]))) (tRet (tC (.bl false)))
    tNext)
    (tRet (tOrV (tOp (rEqD K) (tVar 1) (tLst tNil)) (tOp rLeI (tCB (rLenS K) (tCons (tVar 3) tNil)) (tOp rAddI (tCB (rLenS K) (tCons (tVar 2) tNil)) (tOp rMulW (tC (.int 2)) (tOp rSubI (tCB (rLenS K) (tCons (tVar 1) tNil)) (tC (.int 1))))))))))))))
def sp_l_does_stretch (K : PySem.W.Frag) : Sp := fun vs H Q _ => vs.length = 4 ∧ t_l_does_stretch K { nx := fun _ H' => Q .non H', rt := Q } (start n_l_does_stretch vs) H
def n_l_stretch_right : List Str := ["_law_length", "_law_speeds", "_law_amounts", "_law_kept", "_law_handed", "_law_told"]
/-- _law_stretch_right(_law_length, _law_speeds, _law_amounts) -/
def t_l_stretch_right (K : PySem.W.Frag) : TS :=
    (tSeq (tAsg (tCB (rReprD K) (tCons (tTup (tCons (tVar 1) (tCons (tVar 2) tNil))) tNil)) (gName 3))
    (tSeq (tFor (iTup K (tTup (tCons (tTup (tCons (tVar 1) (tCons (tVar 2) tNil))) (tCons (tTup (tCons (tCB (rTupS K) (tCons (tVar 1) tNil)) (tCons (tCB (rTupS K) (tCons (tVar 2) tNil)) tNil))) tNil)))) (gName 4)
    (tSeq (tAsg (tCall (sp_stretch_plan K) [] E0 (tCons (tVar 0) (tCons (tOp (rIxT K) (tVar 4) (tC (.int 0))) (tCons (tOp (rIxT K) (tVar 4) (tC (.int 1))) tNil)))) (gName 5))
    (tIfS (tNot (tB (tCall (sp_l_can K) [] E0 (tCons (tVar 0) (tCons (tVar 1) (tCons (tVar 2) tNil)))))) (tIfS (tTest (tOp rNotN1 (tVar 5) (tC .non))) (tRet (tC (.bl false)))
    tNext)
    (tIfS (tNot (tB (tCall (sp_l_does_stretch K) [] E0 (tCons (tVar 0) (tCons (tVar 1) (tCons (tVar 2) (tCons (tVar 5) tNil))))))) (tRet (tC (.bl false)))
    tNext))))
    (tRet (tOp rEq (tCB (rReprD K) (tCons (tTup (tCons (tVar 1) (tCons (tVar 2) tNil))) tNil)) (tVar 3)))))
def sp_l_stretch_right (K : PySem.W.Frag) : Sp := fun vs H Q _ => vs.length = 3 ∧ t_l_stretch_right K { nx := fun _ H' => Q .non H', rt := Q } (start n_l_stretch_right vs) H
def n_l_great : List Str := ["_law_pen_here", "_law_figures", "_law_found", "_law_k"]
/-- _law_great(_law_pen_here, _law_figures) -/
def t_l_great (K : PySem.W.Frag) : TS :=
    (tSeq (tAsg (tC (.int 0)) (gName 2))
    (tSeq (tFor (iRng1 (tCons (tVar 1) tNil)) (gName 3)
    (tAsg (tOp rAddI (tOp rMulW (tC (.int 10)) (tVar 2)) (tCall (sp_l_draw K) [] E0 (tCons (tVar 0) (tCons (tC (.int 10)) tNil)))) (gName 2)))
    (tRet (tVar 2))))
def sp_l_great (K : PySem.W.Frag) : Sp := fun vs H Q _ => vs.length = 2 ∧ t_l_great K { nx := fun _ H' => Q .non H', rt := Q } (start n_l_great vs) H
def n_l_drawn : List Str := ["_law_pen_here", "_law_many", "_law_few", "_law_length", "_law_top", "_law_speeds", "_law_most", "_law_amounts", "_law_k"]
/-- _law_drawn(_law_pen_here, _law_many, _law_few) -/
def t_l_drawn (K : PySem.W.Frag) : TS :=
    (tSeq (tAsg (tTup (tCons (tOp rAddI (tC (.int 1)) (tCall (sp_l_draw K) [] E0 (tCons (tVar 0) (tCons (tC (.int 9)) tNil)))) (tCons (tOp rAddI (tC (.int 1)) (tCall (sp_l_draw K) [] E0 (tCons (tVar 0) (tCons (tC (.int 12)) tNil)))) tNil))) (gTup K 2 (gCons (gName 3) (gCons (gName 4) gNil))))
    (tSeq (tAsg (tLc (iRng1 (tCons (tOp rAddI (tC (.int 1)) (tCall (sp_l_draw K) [] E0 (tCons (tVar 0) (tCons (tVar 1) tNil)))) tNil)) (gName 8) tYes (tOp rAddI (tC (.int 1)) (tCall (sp_l_draw K) [] E0 (tCons (tVar 0) (tCons (tVar 4) tNil)))) [8]) (gName 5))
    (tSeq (tAsg (tCall (sp_l_pick K) [] E0 (tCons (tVar 0) (tCons (tLst (tCons (tOp rMulW (tVar 3) (tCB (rMax K) (tCons (tVar 5) tNil))) (tCons (tOp rMulW (tVar 3) (tCB (rMax K) (tCons (tVar 5) tNil))) (tCons (tOp rAddI (tC (.int 1)) (tOp rDivW (tOp rMulW (tVar 3) (tCB (rSum K) (tCons (tVar 5) tNil))) (tVar 2))) (tCons (tC (.int 3)) tNil))))) tNil))) (gName 6))
    (tSeq (tAsg (tLc (iRng1 (tCons (tCall (sp_l_draw K) [] E0 (tCons (tVar 0) (tCons (tOp rAddI (tVar 2) (tC (.int 1))) tNil))) tNil)) (gName 8) tYes (tCall (sp_l_draw K) [] E0 (tCons (tVar 0) (tCons (tOp rAddI (tVar 6) (tC (.int 1))) tNil))) [8]) (gName 7))
    (tSeq (tIfS (tTest (tOp rEq (tCall (sp_l_draw K) [] E0 (tCons (tVar 0) (tCons (tC (.int 3)) tNil))) (tC (.int 0)))) (tAsg (tOp rRep (tSl (rSlL K) (tVar 7) tNoPart (tPart (tC (.int 1)))) (tCB (rLenS K) (tCons (tVar 7) tNil))) (gName 7))
    tNext)
    (tSeq (tIfS (tTest (tOp rGtI (tCall (sp_l_draw K) [] E0 (tCons (tVar 0) (tCons (tC (.int 4)) tNil))) (tC (.int 0)))) (tAsg (tCall (sp_l_poured K) [] E0 (tCons (tVar 3) (tCons (tVar 5) (tCons (tVar 7) tNil)))) (gName 7))
    tNext)
    (tRet (tTup (tCons (tVar 3) (tCons (tVar 5) (tCons (tVar 7) tNil)))))))))))
def sp_l_drawn (K : PySem.W.Frag) : Sp := fun vs H Q _ => vs.length = 3 ∧ t_l_drawn K { nx := fun _ H' => Q .non H', rt := Q } (start n_l_drawn vs) H
def n_law : List Str := ["_law_script", "_law_pen_here", "_law_turn", "_law_length", "_law_speeds", "_law_amounts", "_law_is_done", "_law_ratio", "_law_other", "_law_large", "_law_larger", "_law_longer", "_law_amount", "_law_speed"]
/-- law(_law_script) -/
def t_law (K : PySem.W.Frag) : TS :=
    (tSeq (tAsg (tCall (sp_l_pen K) [] E0 (tCons (tVar 0) tNil)) (gName 1))
    (tSeq (tFor (iRng1 (tCons (tOp rAddI (tC (.int 2)) (tCB rMin2 (tCons (tC (.int 3)) (tCons (tCB (rLenS K) (tCons (tVar 0) tNil)) tNil)))) tNil)) (gName 2)
    (tSeq (tAsg (tCall (sp_l_drawn K) [] E0 (tCons (tVar 1) (tCons (tC (.int 8)) (tCons (tIf (tTest (tOp rEq (tVar 2) (tC (.int 0)))) (tC (.int 39)) (tC (.int 9))) tNil)))) (gTup K 3 (gCons (gName 3) (gCons (gName 4) (gCons (gName 5) gNil)))))
    (tSeq (tIfS (tNot (tB (tCall (sp_l_stretch_right K) [] E0 (tCons (tVar 3) (tCons (tVar 4) (tCons (tVar 5) tNil)))))) (tRet (tC (.bl false)))
    tNext)
    (tSeq (tAsg (tTup (tCons (tOp rNotN1 (tCall (sp_stretch_plan K) [] E0 (tCons (tVar 3) (tCons (tVar 4) (tCons (tVar 5) tNil)))) (tC .non)) (tCons (tOp rAddI (tC (.int 1)) (tCall (sp_l_great K) [] E0 (tCons (tVar 1) (tCons (tC (.int 12)) tNil)))) tNil))) (gTup K 2 (gCons (gName 6) (gCons (gName 7) gNil))))
    (tSeq (tAsg (tCall (sp_stretch_plan K) [] E0 (tCons (tVar 3) (tCons (tCall (sp_l_shuffled K) [] E0 (tCons (tVar 1) (tCons (tVar 4) tNil))) (tCons (tCall (sp_l_shuffled K) [] E0 (tCons (tVar 1) (tCons (tOp rCat (tVar 5) (tLst (tCons (tC (.int 0)) tNil))) tNil))) tNil)))) (gName 8))
    (tSeq (tIfS (tTest (tOp rNe (tOp rNotN1 (tVar 8) (tC .non)) (tVar 6))) (tRet (tC (.bl false)))
    tNext)
    (tSeq (tAsg (tLc (iList K (tVar 5)) (gName 12) tYes (tOp rMulW (tVar 12) (tVar 7)) [12]) (gName 9))
    (tSeq (tAsg (tCall (sp_stretch_plan K) [] E0 (tCons (tVar 3) (tCons (tLc (iList K (tVar 4)) (gName 13) tYes (tOp rMulW (tVar 13) (tVar 7)) [13]) (tCons (tVar 9) tNil)))) (gName 10))
    (tSeq (tAsg (tCall (sp_stretch_plan K) [] E0 (tCons (tOp rMulW (tVar 3) (tVar 7)) (tCons (tVar 4) (tCons (tVar 9) tNil)))) (gName 11))
    (tSeq (tIfS (tOr (tTest (tOp rNe (tOp rNotN1 (tVar 10) (tC .non)) (tVar 6))) (tTest (tOp rNe (tOp rNotN1 (tVar 11) (tC .non)) (tVar 6)))) (tRet (tC (.bl false)))
    tNext)
    (tSeq (tIfS (tAnd (tB (tVar 6)) (tNot (tB (tCall (sp_l_does_stretch K) [] E0 (tCons (tOp rMulW (tVar 3) (tVar 7)) (tCons (tVar 4) (tCons (tVar 9) (tCons (tVar 11) tNil)))))))) (tRet (tC (.bl false)))
    tNext)
    (tSeq (tIfS (tAnd (tB (tVar 6)) (tTest (tOp rIsN1 (tCall (sp_stretch_plan K) [] E0 (tCons (tVar 3) (tCons (tVar 4) (tCons (tSl (rSlL K) (tVar 5) (tPart (tC (.int 1))) tNoPart) tNil)))) (tC .non)))) (tRet (tC (.bl false)))
    tNext)
    (tIfS (tTest (tOp rNotN1 (tCall (sp_stretch_plan K) [] E0 (tCons (tVar 3) (tCons (tVar 4) (tCons (tOp rCat (tVar 5) (tLst (tCons (tOp rAddI (tOp rMulW (tVar 3) (tCB (rSum K) (tCons (tVar 4) tNil))) (tC (.int 1))) tNil))) tNil)))) (tC .non))) (tRet (tC (.bl false)))
    tNext)))))))))))))
    (tRet (tC (.bl true)))))
def sp_law (K : PySem.W.Frag) : Sp := fun vs H Q _ => vs.length = 1 ∧ t_law K { nx := fun _ H' => Q .non H', rt := Q } (start n_law vs) H
end My

namespace My
open PySem PySem.Spec PyProof.Rows L2
open He (ga ma)
def top (i : Nat) : Stmt := PySem.Challenge.pw_cutworks_k52_whole_stretches_of_any_size.main.body.getD i (.Pass ⟨0, 0, 0, 0⟩)
abbrev s_common_divisor : Stmt := top 1
abbrev s_fraction : Stmt := top 2
abbrev s_is_less : Stmt := top 3
abbrev s_plus : Stmt := top 4
abbrev s_minus : Stmt := top 5
abbrev s_times : Stmt := top 6
abbrev s_divided : Stmt := top 9
abbrev s_Segment_init : Stmt := inClass (top 10) 0
abbrev s_Segment_content : Stmt := inClass (top 10) 1
abbrev s_Segment_between : Stmt := inClass (top 10) 2
abbrev s_capacity_of : Stmt := top 11
abbrev s_lane_between : Stmt := top 12
abbrev s_joined : Stmt := top 13
abbrev s_moments_of : Stmt := top 14
abbrev s_rate_at : Stmt := top 15
abbrev s_switch_moment : Stmt := top 16
abbrev s_slowest_lane : Stmt := top 17
abbrev s_descending : Stmt := top 18
abbrev s_cut_stretch : Stmt := top 19
abbrev s_stretch_plan : Stmt := top 20
abbrev s_l_pen : Stmt := top 22
abbrev s_l_draw : Stmt := top 23
abbrev s_l_pick : Stmt := top 24
abbrev s_l_shuffled : Stmt := top 25
abbrev s_l_gcd : Stmt := top 26
abbrev s_l_fraction : Stmt := top 27
abbrev s_l_less : Stmt := top 28
abbrev s_l_plus : Stmt := top 29
abbrev s_l_minus : Stmt := top 30
abbrev s_l_times : Stmt := top 31
abbrev s_l_is_int : Stmt := top 32
abbrev s_l_is_fraction : Stmt := top 33
abbrev s_l_overlap : Stmt := top 34
abbrev s_l_can : Stmt := top 35
abbrev s_l_poured : Stmt := top 36
abbrev s_l_is_in_stretch : Stmt := top 37
abbrev s_l_does_stretch : Stmt := top 38
abbrev s_l_stretch_right : Stmt := top 39
abbrev s_l_great : Stmt := top 40
abbrev s_l_drawn : Stmt := top 41
abbrev s_law : Stmt := top 42
abbrev FnP (K : PySem.W.Frag) (x q : Str) (st : Stmt) (f : Addr) (fd : FuncData) : Prop := FunD K x q (defArgs st) (defBody st) (defScope st) [] [] f fd
/-- what the top has written -/
structure Tx (K : PySem.W.Frag) (mg : Str → Option Value) where
  fd_common_divisor : FuncData
  F_common_divisor : FnP K "common_divisor" "common_divisor" s_common_divisor (ga K "common_divisor") fd_common_divisor
  g_common_divisor : mg "common_divisor" = some (.ref (ga K "common_divisor"))
  fd_fraction : FuncData
  F_fraction : FnP K "fraction" "fraction" s_fraction (ga K "fraction") fd_fraction
  g_fraction : mg "fraction" = some (.ref (ga K "fraction"))
  fd_is_less : FuncData
  F_is_less : FnP K "is_less" "is_less" s_is_less (ga K "is_less") fd_is_less
  g_is_less : mg "is_less" = some (.ref (ga K "is_less"))
  fd_plus : FuncData
  F_plus : FnP K "plus" "plus" s_plus (ga K "plus") fd_plus
  g_plus : mg "plus" = some (.ref (ga K "plus"))
  fd_minus : FuncData
  F_minus : FnP K "minus" "minus" s_minus (ga K "minus") fd_minus
  g_minus : mg "minus" = some (.ref (ga K "minus"))
  fd_times : FuncData
  F_times : FnP K "times" "times" s_times (ga K "times") fd_times
  g_times : mg "times" = some (.ref (ga K "times"))
  fd_divided : FuncData
  F_divided : FnP K "divided" "divided" s_divided (ga K "divided") fd_divided
  g_divided : mg "divided" = some (.ref (ga K "divided"))
  fd_Segment_init : FuncData
  F_Segment_init : FnP K "__init__" "Segment.__init__" s_Segment_init (ma K (ga K "Segment") "__init__") fd_Segment_init
  fd_Segment_content : FuncData
  F_Segment_content : FnP K "content" "Segment.content" s_Segment_content (ma K (ga K "Segment") "content") fd_Segment_content
  me_Segment_content : Meth K (ga K "Segment") "content" (ma K (ga K "Segment") "content")
  fd_Segment_between : FuncData
  F_Segment_between : FnP K "between" "Segment.between" s_Segment_between (ma K (ga K "Segment") "between") fd_Segment_between
  me_Segment_between : Meth K (ga K "Segment") "between" (ma K (ga K "Segment") "between")
  fd_capacity_of : FuncData
  F_capacity_of : FnP K "capacity_of" "capacity_of" s_capacity_of (ga K "capacity_of") fd_capacity_of
  g_capacity_of : mg "capacity_of" = some (.ref (ga K "capacity_of"))
  fd_lane_between : FuncData
  F_lane_between : FnP K "lane_between" "lane_between" s_lane_between (ga K "lane_between") fd_lane_between
  g_lane_between : mg "lane_between" = some (.ref (ga K "lane_between"))
  fd_joined : FuncData
  F_joined : FnP K "joined" "joined" s_joined (ga K "joined") fd_joined
  g_joined : mg "joined" = some (.ref (ga K "joined"))
  fd_moments_of : FuncData
  F_moments_of : FnP K "moments_of" "moments_of" s_moments_of (ga K "moments_of") fd_moments_of
  g_moments_of : mg "moments_of" = some (.ref (ga K "moments_of"))
  fd_rate_at : FuncData
  F_rate_at : FnP K "rate_at" "rate_at" s_rate_at (ga K "rate_at") fd_rate_at
  g_rate_at : mg "rate_at" = some (.ref (ga K "rate_at"))
  fd_switch_moment : FuncData
  F_switch_moment : FnP K "switch_moment" "switch_moment" s_switch_moment (ga K "switch_moment") fd_switch_moment
  g_switch_moment : mg "switch_moment" = some (.ref (ga K "switch_moment"))
  fd_slowest_lane : FuncData
  F_slowest_lane : FnP K "slowest_lane" "slowest_lane" s_slowest_lane (ga K "slowest_lane") fd_slowest_lane
  g_slowest_lane : mg "slowest_lane" = some (.ref (ga K "slowest_lane"))
  fd_descending : FuncData
  F_descending : FnP K "descending" "descending" s_descending (ga K "descending") fd_descending
  g_descending : mg "descending" = some (.ref (ga K "descending"))
  fd_cut_stretch : FuncData
  F_cut_stretch : FnP K "cut_stretch" "cut_stretch" s_cut_stretch (ga K "cut_stretch") fd_cut_stretch
  g_cut_stretch : mg "cut_stretch" = some (.ref (ga K "cut_stretch"))
  fd_stretch_plan : FuncData
  F_stretch_plan : FnP K "stretch_plan" "stretch_plan" s_stretch_plan (ga K "stretch_plan") fd_stretch_plan
  g_stretch_plan : mg "stretch_plan" = some (.ref (ga K "stretch_plan"))
  fd_l_pen : FuncData
  F_l_pen : FnP K "_law_pen" "_law_pen" s_l_pen (ga K "_law_pen") fd_l_pen
  g_l_pen : mg "_law_pen" = some (.ref (ga K "_law_pen"))
  fd_l_draw : FuncData
  F_l_draw : FnP K "_law_draw" "_law_draw" s_l_draw (ga K "_law_draw") fd_l_draw
  g_l_draw : mg "_law_draw" = some (.ref (ga K "_law_draw"))
  fd_l_pick : FuncData
  F_l_pick : FnP K "_law_pick" "_law_pick" s_l_pick (ga K "_law_pick") fd_l_pick
  g_l_pick : mg "_law_pick" = some (.ref (ga K "_law_pick"))
  fd_l_shuffled : FuncData
  F_l_shuffled : FnP K "_law_shuffled" "_law_shuffled" s_l_shuffled (ga K "_law_shuffled") fd_l_shuffled
  g_l_shuffled : mg "_law_shuffled" = some (.ref (ga K "_law_shuffled"))
  fd_l_gcd : FuncData
  F_l_gcd : FnP K "_law_gcd" "_law_gcd" s_l_gcd (ga K "_law_gcd") fd_l_gcd
  g_l_gcd : mg "_law_gcd" = some (.ref (ga K "_law_gcd"))
  fd_l_fraction : FuncData
  F_l_fraction : FnP K "_law_fraction" "_law_fraction" s_l_fraction (ga K "_law_fraction") fd_l_fraction
  g_l_fraction : mg "_law_fraction" = some (.ref (ga K "_law_fraction"))
  fd_l_less : FuncData
  F_l_less : FnP K "_law_less" "_law_less" s_l_less (ga K "_law_less") fd_l_less
  g_l_less : mg "_law_less" = some (.ref (ga K "_law_less"))
  fd_l_plus : FuncData
  F_l_plus : FnP K "_law_plus" "_law_plus" s_l_plus (ga K "_law_plus") fd_l_plus
  g_l_plus : mg "_law_plus" = some (.ref (ga K "_law_plus"))
  fd_l_minus : FuncData
  F_l_minus : FnP K "_law_minus" "_law_minus" s_l_minus (ga K "_law_minus") fd_l_minus
  g_l_minus : mg "_law_minus" = some (.ref (ga K "_law_minus"))
  fd_l_times : FuncData
  F_l_times : FnP K "_law_times" "_law_times" s_l_times (ga K "_law_times") fd_l_times
  g_l_times : mg "_law_times" = some (.ref (ga K "_law_times"))
  fd_l_is_int : FuncData
  F_l_is_int : FnP K "_law_is_int" "_law_is_int" s_l_is_int (ga K "_law_is_int") fd_l_is_int
  g_l_is_int : mg "_law_is_int" = some (.ref (ga K "_law_is_int"))
  fd_l_is_fraction : FuncData
  F_l_is_fraction : FnP K "_law_is_fraction" "_law_is_fraction" s_l_is_fraction (ga K "_law_is_fraction") fd_l_is_fraction
  g_l_is_fraction : mg "_law_is_fraction" = some (.ref (ga K "_law_is_fraction"))
  fd_l_overlap : FuncData
  F_l_overlap : FnP K "_law_overlap" "_law_overlap" s_l_overlap (ga K "_law_overlap") fd_l_overlap
  g_l_overlap : mg "_law_overlap" = some (.ref (ga K "_law_overlap"))
  fd_l_can : FuncData
  F_l_can : FnP K "_law_can" "_law_can" s_l_can (ga K "_law_can") fd_l_can
  g_l_can : mg "_law_can" = some (.ref (ga K "_law_can"))
  fd_l_poured : FuncData
  F_l_poured : FnP K "_law_poured" "_law_poured" s_l_poured (ga K "_law_poured") fd_l_poured
  g_l_poured : mg "_law_poured" = some (.ref (ga K "_law_poured"))
  fd_l_is_in_stretch : FuncData
  F_l_is_in_stretch : FnP K "_law_is_in_stretch" "_law_is_in_stretch" s_l_is_in_stretch (ga K "_law_is_in_stretch") fd_l_is_in_stretch
  g_l_is_in_stretch : mg "_law_is_in_stretch" = some (.ref (ga K "_law_is_in_stretch"))
  fd_l_does_stretch : FuncData
  F_l_does_stretch : FnP K "_law_does_stretch" "_law_does_stretch" s_l_does_stretch (ga K "_law_does_stretch") fd_l_does_stretch
  g_l_does_stretch : mg "_law_does_stretch" = some (.ref (ga K "_law_does_stretch"))
  fd_l_stretch_right : FuncData
  F_l_stretch_right : FnP K "_law_stretch_right" "_law_stretch_right" s_l_stretch_right (ga K "_law_stretch_right") fd_l_stretch_right
  g_l_stretch_right : mg "_law_stretch_right" = some (.ref (ga K "_law_stretch_right"))
  fd_l_great : FuncData
  F_l_great : FnP K "_law_great" "_law_great" s_l_great (ga K "_law_great") fd_l_great
  g_l_great : mg "_law_great" = some (.ref (ga K "_law_great"))
  fd_l_drawn : FuncData
  F_l_drawn : FnP K "_law_drawn" "_law_drawn" s_l_drawn (ga K "_law_drawn") fd_l_drawn
  g_l_drawn : mg "_law_drawn" = some (.ref (ga K "_law_drawn"))
  fd_law : FuncData
  F_law : FnP K "law" "law" s_law (ga K "law") fd_law
  g_law : mg "law" = some (.ref (ga K "law"))
  n_abs : mg "abs" = none
  n_bool : mg "bool" = none
  n_enumerate : mg "enumerate" = none
  n_int : mg "int" = none
  n_isinstance : mg "isinstance" = none
  n_len : mg "len" = none
  n_list : mg "list" = none
  n_max : mg "max" = none
  n_min : mg "min" = none
  n_range : mg "range" = none
  n_repr : mg "repr" = none
  n_sorted : mg "sorted" = none
  n_sum : mg "sum" = none
  n_tuple : mg "tuple" = none
  n_zip : mg "zip" = none
  g_Segment : mg "Segment" = some (.ref (ga K "Segment"))
  g_ZERO : mg "ZERO" = some (.ref (ga K "ZERO"))
  c_Segment : Cls K (ga K "Segment")
  m_Segment : Mk K (ga K "Segment") (ma K (ga K "Segment") "__init__")
section
variable {P : Program} {w : World} {K : PySem.W.Frag} {mg : Str → Option Value} {base : Heap}
theorem kp_common_divisor (T : Tx K mg) : PySem.W.keepIn K (.ref (ga K "common_divisor")) = true := T.F_common_divisor.kp
theorem b_common_divisor (T : Tx K mg) : Binds K T.fd_common_divisor ["one", "other"] [] := T.F_common_divisor.bindsN fun _ _ _ _ _ _ us hl => match us, hl with | [_, _], _ => rfl
theorem sc_common_divisor : FnScope n_common_divisor ["one", "other"] (defScope s_common_divisor) := ⟨rfl, rfl, rfl, by decide +kernel, rfl, by decide +kernel, by decide +kernel⟩
theorem ok_common_divisor (T : Tx K mg) : FnOk P w K mg base CX0 1 (ga K "common_divisor") T.fd_common_divisor ["one", "other"] (sp_common_divisor K) := by
  refine T.F_common_divisor.ok sc_common_divisor (fun _ _ _ _ h => h.1) (fun cdv A outer s H vs Q E hr h => ⟨t_common_divisor K, PSs.nox ?_, h.2⟩)
  exact (pss_cons (ps_while PassesOwn.never (pt_cmpR op_gt (pv 1) pe_int (nomark _)) (pss_one (ps_par (i := 0) (j := 1) rfl sc_common_divisor.nd rfl rfl (by decide) rfl rfl (pa_cons (pv 1) (pa_cons (pe_op op_mod (pv 0) (pv 1)) pa_nil)) (by rfl))))
    (pss_one (ps_ret (pv 0))))
theorem kp_fraction (T : Tx K mg) : PySem.W.keepIn K (.ref (ga K "fraction")) = true := T.F_fraction.kp
theorem b_fraction (T : Tx K mg) : Binds K T.fd_fraction ["upper", "lower"] [] := T.F_fraction.bindsN fun _ _ _ _ _ _ us hl => match us, hl with | [_, _], _ => rfl
theorem sc_fraction : FnScope n_fraction ["upper", "lower"] (defScope s_fraction) := ⟨rfl, rfl, rfl, by decide +kernel, rfl, by decide +kernel, by decide +kernel⟩
theorem ok_fraction (T : Tx K mg) : FnOk P w K mg base CX0 2 (ga K "fraction") T.fd_fraction ["upper", "lower"] (sp_fraction K) := by
  refine T.F_fraction.ok sc_fraction (fun _ _ _ _ h => h.1) (fun cdv A outer s H vs Q E hr h => ⟨t_fraction K, PSs.nox ?_, h.2⟩)
  exact (pss_cons (ps_set (i := 2) sc_fraction.nd rfl (by first | exact Or.inl rfl | exact Or.inr rfl) (pe_call (ok_common_divisor T) (hr.mono (by decide)) (by rfl) T.g_common_divisor (kp_common_divisor T) (b_common_divisor T) .nil pass0 (pa_cons (pe_callB call_abs (by rfl) T.n_abs (by decide +kernel) (pa_cons (pv 0) pa_nil)) (pa_cons (pv 1) pa_nil))))
    (pss_one (ps_ret (pe_tup (pa_cons (pe_op op_fdivW (pv 0) (pv 2)) (pa_cons (pe_op op_fdivW (pv 1) (pv 2)) pa_nil))))))
theorem kp_is_less (T : Tx K mg) : PySem.W.keepIn K (.ref (ga K "is_less")) = true := T.F_is_less.kp
theorem b_is_less (T : Tx K mg) : Binds K T.fd_is_less ["one", "other"] [] := T.F_is_less.bindsN fun _ _ _ _ _ _ us hl => match us, hl with | [_, _], _ => rfl
theorem sc_is_less : FnScope n_is_less ["one", "other"] (defScope s_is_less) := ⟨rfl, rfl, rfl, by decide +kernel, rfl, by decide +kernel, by decide +kernel⟩
theorem ok_is_less (T : Tx K mg) : FnOk P w K mg base CX0 1 (ga K "is_less") T.fd_is_less ["one", "other"] (sp_is_less K) := by
  refine T.F_is_less.ok sc_is_less (fun _ _ _ _ h => h.1) (fun cdv A outer s H vs Q E hr h => ⟨t_is_less K, PSs.nox ?_, h.2⟩)
  exact (pss_one (ps_ret (pe_cmpR op_lt (pe_op op_mulW (pe_ix ix_tup (pv 0) pe_int (fun _ _ => rfl)) (pe_ix ix_tup (pv 1) pe_int (fun _ _ => rfl))) (pe_op op_mulW (pe_ix ix_tup (pv 1) pe_int (fun _ _ => rfl)) (pe_ix ix_tup (pv 0) pe_int (fun _ _ => rfl))) (nomark _))))
theorem kp_plus (T : Tx K mg) : PySem.W.keepIn K (.ref (ga K "plus")) = true := T.F_plus.kp
theorem b_plus (T : Tx K mg) : Binds K T.fd_plus ["one", "other"] [] := T.F_plus.bindsN fun _ _ _ _ _ _ us hl => match us, hl with | [_, _], _ => rfl
theorem sc_plus : FnScope n_plus ["one", "other"] (defScope s_plus) := ⟨rfl, rfl, rfl, by decide +kernel, rfl, by decide +kernel, by decide +kernel⟩
theorem ok_plus (T : Tx K mg) : FnOk P w K mg base CX0 3 (ga K "plus") T.fd_plus ["one", "other"] (sp_plus K) := by
  refine T.F_plus.ok sc_plus (fun _ _ _ _ h => h.1) (fun cdv A outer s H vs Q E hr h => ⟨t_plus K, PSs.nox ?_, h.2⟩)
  exact (pss_one (ps_ret (pe_call (ok_fraction T) (hr.mono (by decide)) (by rfl) T.g_fraction (kp_fraction T) (b_fraction T) .nil pass0 (pa_cons (pe_op op_add (pe_op op_mulW (pe_ix ix_tup (pv 0) pe_int (fun _ _ => rfl)) (pe_ix ix_tup (pv 1) pe_int (fun _ _ => rfl))) (pe_op op_mulW (pe_ix ix_tup (pv 1) pe_int (fun _ _ => rfl)) (pe_ix ix_tup (pv 0) pe_int (fun _ _ => rfl)))) (pa_cons (pe_op op_mulW (pe_ix ix_tup (pv 0) pe_int (fun _ _ => rfl)) (pe_ix ix_tup (pv 1) pe_int (fun _ _ => rfl))) pa_nil)))))
theorem kp_minus (T : Tx K mg) : PySem.W.keepIn K (.ref (ga K "minus")) = true := T.F_minus.kp
theorem b_minus (T : Tx K mg) : Binds K T.fd_minus ["one", "other"] [] := T.F_minus.bindsN fun _ _ _ _ _ _ us hl => match us, hl with | [_, _], _ => rfl
theorem sc_minus : FnScope n_minus ["one", "other"] (defScope s_minus) := ⟨rfl, rfl, rfl, by decide +kernel, rfl, by decide +kernel, by decide +kernel⟩
theorem ok_minus (T : Tx K mg) : FnOk P w K mg base CX0 3 (ga K "minus") T.fd_minus ["one", "other"] (sp_minus K) := by
  refine T.F_minus.ok sc_minus (fun _ _ _ _ h => h.1) (fun cdv A outer s H vs Q E hr h => ⟨t_minus K, PSs.nox ?_, h.2⟩)
  exact (pss_one (ps_ret (pe_call (ok_fraction T) (hr.mono (by decide)) (by rfl) T.g_fraction (kp_fraction T) (b_fraction T) .nil pass0 (pa_cons (pe_op op_sub (pe_op op_mulW (pe_ix ix_tup (pv 0) pe_int (fun _ _ => rfl)) (pe_ix ix_tup (pv 1) pe_int (fun _ _ => rfl))) (pe_op op_mulW (pe_ix ix_tup (pv 1) pe_int (fun _ _ => rfl)) (pe_ix ix_tup (pv 0) pe_int (fun _ _ => rfl)))) (pa_cons (pe_op op_mulW (pe_ix ix_tup (pv 0) pe_int (fun _ _ => rfl)) (pe_ix ix_tup (pv 1) pe_int (fun _ _ => rfl))) pa_nil)))))
theorem kp_times (T : Tx K mg) : PySem.W.keepIn K (.ref (ga K "times")) = true := T.F_times.kp
theorem b_times (T : Tx K mg) : Binds K T.fd_times ["one", "other"] [] := T.F_times.bindsN fun _ _ _ _ _ _ us hl => match us, hl with | [_, _], _ => rfl
theorem sc_times : FnScope n_times ["one", "other"] (defScope s_times) := ⟨rfl, rfl, rfl, by decide +kernel, rfl, by decide +kernel, by decide +kernel⟩
theorem ok_times (T : Tx K mg) : FnOk P w K mg base CX0 3 (ga K "times") T.fd_times ["one", "other"] (sp_times K) := by
  refine T.F_times.ok sc_times (fun _ _ _ _ h => h.1) (fun cdv A outer s H vs Q E hr h => ⟨t_times K, PSs.nox ?_, h.2⟩)
  exact (pss_one (ps_ret (pe_call (ok_fraction T) (hr.mono (by decide)) (by rfl) T.g_fraction (kp_fraction T) (b_fraction T) .nil pass0 (pa_cons (pe_op op_mulW (pe_ix ix_tup (pv 0) pe_int (fun _ _ => rfl)) (pe_ix ix_tup (pv 1) pe_int (fun _ _ => rfl))) (pa_cons (pe_op op_mulW (pe_ix ix_tup (pv 0) pe_int (fun _ _ => rfl)) (pe_ix ix_tup (pv 1) pe_int (fun _ _ => rfl))) pa_nil)))))
theorem kp_divided (T : Tx K mg) : PySem.W.keepIn K (.ref (ga K "divided")) = true := T.F_divided.kp
theorem b_divided (T : Tx K mg) : Binds K T.fd_divided ["one", "other"] [] := T.F_divided.bindsN fun _ _ _ _ _ _ us hl => match us, hl with | [_, _], _ => rfl
theorem sc_divided : FnScope n_divided ["one", "other"] (defScope s_divided) := ⟨rfl, rfl, rfl, by decide +kernel, rfl, by decide +kernel, by decide +kernel⟩
theorem ok_divided (T : Tx K mg) : FnOk P w K mg base CX0 3 (ga K "divided") T.fd_divided ["one", "other"] (sp_divided K) := by
  refine T.F_divided.ok sc_divided (fun _ _ _ _ h => h.1) (fun cdv A outer s H vs Q E hr h => ⟨t_divided K, PSs.nox ?_, h.2⟩)
  exact (pss_one (ps_ret (pe_call (ok_fraction T) (hr.mono (by decide)) (by rfl) T.g_fraction (kp_fraction T) (b_fraction T) .nil pass0 (pa_cons (pe_op op_mulW (pe_ix ix_tup (pv 0) pe_int (fun _ _ => rfl)) (pe_ix ix_tup (pv 1) pe_int (fun _ _ => rfl))) (pa_cons (pe_op op_mulW (pe_ix ix_tup (pv 0) pe_int (fun _ _ => rfl)) (pe_ix ix_tup (pv 1) pe_int (fun _ _ => rfl))) pa_nil)))))
theorem kp_Segment_init (T : Tx K mg) : PySem.W.keepIn K (.ref (ma K (ga K "Segment") "__init__")) = true := T.F_Segment_init.kp
theorem b_Segment_init (T : Tx K mg) : Binds K T.fd_Segment_init ["self", "opening", "closing", "rate", "owner"] [] := T.F_Segment_init.bindsN fun _ _ _ _ _ _ us hl => match us, hl with | [_, _, _, _, _], _ => rfl
theorem sc_Segment_init : FnScope n_Segment_init ["self", "opening", "closing", "rate", "owner"] (defScope s_Segment_init) := ⟨rfl, rfl, rfl, by decide +kernel, rfl, by decide +kernel, by decide +kernel⟩
theorem ok_Segment_init (T : Tx K mg) : FnOk P w K mg base CX0 1 (ma K (ga K "Segment") "__init__") T.fd_Segment_init ["self", "opening", "closing", "rate", "owner"] (sp_Segment_init K) := by
  refine T.F_Segment_init.ok sc_Segment_init (fun _ _ _ _ h => h.1) (fun cdv A outer s H vs Q E hr h => ⟨t_Segment_init K, PSs.nox ?_, h.2⟩)
  exact (pss_cons (ps_fld (pv 0) (pv 1) rfl)
    (pss_cons (ps_fld (pv 0) (pv 2) rfl)
    (pss_cons (ps_fld (pv 0) (pv 3) rfl)
    (pss_one (ps_fld (pv 0) (pv 4) rfl)))))
theorem kp_Segment_content (T : Tx K mg) : PySem.W.keepIn K (.ref (ma K (ga K "Segment") "content")) = true := T.F_Segment_content.kp
theorem b_Segment_content (T : Tx K mg) : Binds K T.fd_Segment_content ["self"] [] := T.F_Segment_content.bindsN fun _ _ _ _ _ _ us hl => match us, hl with | [_], _ => rfl
theorem sc_Segment_content : FnScope n_Segment_content ["self"] (defScope s_Segment_content) := ⟨rfl, rfl, rfl, by decide +kernel, rfl, by decide +kernel, by decide +kernel⟩
theorem ok_Segment_content (T : Tx K mg) : FnOk P w K mg base CX0 4 (ma K (ga K "Segment") "content") T.fd_Segment_content ["self"] (sp_Segment_content K) := by
  refine T.F_Segment_content.ok sc_Segment_content (fun _ _ _ _ h => h.1) (fun cdv A outer s H vs Q E hr h => ⟨t_Segment_content K, PSs.nox ?_, h.2⟩)
  exact (pss_one (ps_ret (pe_call (ok_times T) (hr.mono (by decide)) (by rfl) T.g_times (kp_times T) (b_times T) .nil pass0 (pa_cons (pe_fld (pv 0) rfl) (pa_cons (pe_call (ok_minus T) (hr.mono (by decide)) (by rfl) T.g_minus (kp_minus T) (b_minus T) .nil pass0 (pa_cons (pe_fld (pv 0) rfl) (pa_cons (pe_fld (pv 0) rfl) pa_nil))) pa_nil)))))
theorem kp_Segment_between (T : Tx K mg) : PySem.W.keepIn K (.ref (ma K (ga K "Segment") "between")) = true := T.F_Segment_between.kp
theorem b_Segment_between (T : Tx K mg) : Binds K T.fd_Segment_between ["self", "first", "last"] [] := T.F_Segment_between.bindsN fun _ _ _ _ _ _ us hl => match us, hl with | [_, _, _], _ => rfl
theorem sc_Segment_between : FnScope n_Segment_between ["self", "first", "last"] (defScope s_Segment_between) := ⟨rfl, rfl, rfl, by decide +kernel, rfl, by decide +kernel, by decide +kernel⟩
theorem ok_Segment_between (T : Tx K mg) : FnOk P w K mg base CX0 3 (ma K (ga K "Segment") "between") T.fd_Segment_between ["self", "first", "last"] (sp_Segment_between K) := by
  refine T.F_Segment_between.ok sc_Segment_between (fun _ _ _ _ h => h.1) (fun cdv A outer s H vs Q E hr h => ⟨t_Segment_between K, PSs.nox ?_, h.2⟩)
  exact (pss_cons (ps_set (i := 1) sc_Segment_between.nd rfl (by first | exact Or.inl rfl | exact Or.inr rfl) (pe_ifExp (pt_val (pe_call (ok_is_less T) (hr.mono (by decide)) (by rfl) T.g_is_less (kp_is_less T) (b_is_less T) .nil pass0 (pa_cons (pe_fld (pv 0) rfl) (pa_cons (pv 1) pa_nil)))) (pv 1) (pe_fld (pv 0) rfl)))
    (pss_cons (ps_set (i := 2) sc_Segment_between.nd rfl (by first | exact Or.inl rfl | exact Or.inr rfl) (pe_ifExp (pt_val (pe_call (ok_is_less T) (hr.mono (by decide)) (by rfl) T.g_is_less (kp_is_less T) (b_is_less T) .nil pass0 (pa_cons (pv 2) (pa_cons (pe_fld (pv 0) rfl) pa_nil)))) (pv 2) (pe_fld (pv 0) rfl)))
    (pss_one (ps_ret (pe_ifExp (pt_val (pe_call (ok_is_less T) (hr.mono (by decide)) (by rfl) T.g_is_less (kp_is_less T) (b_is_less T) .nil pass0 (pa_cons (pv 1) (pa_cons (pv 2) pa_nil)))) (pe_make T.m_Segment (ok_Segment_init T) (hr.mono (by decide)) (by rfl) T.g_Segment (b_Segment_init T) .nil pass0 (pa_cons (pv 1) (pa_cons (pv 2) (pa_cons (pe_fld (pv 0) rfl) (pa_cons (pe_fld (pv 0) rfl) pa_nil))))) pe_non)))))
theorem kp_capacity_of (T : Tx K mg) : PySem.W.keepIn K (.ref (ga K "capacity_of")) = true := T.F_capacity_of.kp
theorem b_capacity_of (T : Tx K mg) : Binds K T.fd_capacity_of ["lane"] [] := T.F_capacity_of.bindsN fun _ _ _ _ _ _ us hl => match us, hl with | [_], _ => rfl
theorem sc_capacity_of : FnScope n_capacity_of ["lane"] (defScope s_capacity_of) := ⟨rfl, rfl, rfl, by decide +kernel, rfl, by decide +kernel, by decide +kernel⟩
theorem ok_capacity_of (T : Tx K mg) : FnOk P w K mg base CX0 5 (ga K "capacity_of") T.fd_capacity_of ["lane"] (sp_capacity_of K) := by
  refine T.F_capacity_of.ok sc_capacity_of (fun _ _ _ _ h => h.1) (fun cdv A outer s H vs Q E hr h => ⟨t_capacity_of K, PSs.nox ?_, h.2⟩)
  exact (pss_cons (ps_set (i := 1) sc_capacity_of.nd rfl (by first | exact Or.inl rfl | exact Or.inr rfl) (pe_glob (by rfl) T.g_ZERO rfl))
    (pss_cons (ps_for PassesOwn.never rfl (pi_list (pv 0)) (pg_name (i := 2) sc_capacity_of.nd rfl (by first | exact Or.inl rfl | exact Or.inr rfl))
    (pss_one (ps_set (i := 1) sc_capacity_of.nd rfl (by first | exact Or.inl rfl | exact Or.inr rfl) (pe_call (ok_plus T) (hr.mono (by decide)) (by rfl) T.g_plus (kp_plus T) (b_plus T) .nil pass0 (pa_cons (pv 1) (pa_cons (pe_meth0 (pv 2) T.c_Segment T.me_Segment_content (ok_Segment_content T) (hr.mono (by decide)) (b_Segment_content T) .nil pass0) pa_nil))))))
    (pss_one (ps_ret (pv 1)))))
theorem kp_lane_between (T : Tx K mg) : PySem.W.keepIn K (.ref (ga K "lane_between")) = true := T.F_lane_between.kp
theorem b_lane_between (T : Tx K mg) : Binds K T.fd_lane_between ["lane", "first", "last"] [] := T.F_lane_between.bindsN fun _ _ _ _ _ _ us hl => match us, hl with | [_, _, _], _ => rfl
theorem sc_lane_between : FnScope n_lane_between ["lane", "first", "last"] (defScope s_lane_between) := ⟨rfl, rfl, rfl, by decide +kernel, rfl, by decide +kernel, by decide +kernel⟩
theorem ok_lane_between (T : Tx K mg) : FnOk P w K mg base CX0 4 (ga K "lane_between") T.fd_lane_between ["lane", "first", "last"] (sp_lane_between K) := by
  refine T.F_lane_between.ok sc_lane_between (fun _ _ _ _ h => h.1) (fun cdv A outer s H vs Q E hr h => ⟨t_lane_between K, PSs.nox ?_, h.2⟩)
  exact (pss_cons (ps_setLc (i := 3) (own := [("segment", 4)]) (g := (gName 4)) (tt := tYes) rfl sc_lane_between.nd rfl rfl (sw_true rfl rfl rfl (by decide +kernel)) (pi_list (pv 0)) (blkOk_by (own := [("segment", 4)]) (N := n_lane_between) (sc := (defScope s_lane_between)) (by decide +kernel)) (fun _ _ _ _ _ => (pg_name (i := 4) sc_lane_between.nd rfl (by first | exact Or.inl rfl | exact Or.inr rfl))) (fun _ _ _ _ _ => pts_nil) (fun _ _ _ _ _ => (pe_meth (pv 4) T.c_Segment T.me_Segment_between (ok_Segment_between T) (hr.mono (by decide)) (b_Segment_between T) .nil pass0 (pa_cons (pv 1) (pa_cons (pv 2) pa_nil)))))
    (pss_one (ps_ret (pe_lc (own := [("part", 5)]) (g := (gName 5)) (tt := (tTest (tOp rNotN1 (tVar 5) (tC .non)))) rfl sc_lane_between.nd (pi_list (pv 3)) (blkOk_by (own := [("part", 5)]) (N := n_lane_between) (sc := (defScope s_lane_between)) (by decide +kernel)) (fun _ _ _ _ _ => (pg_name (i := 5) sc_lane_between.nd rfl (by first | exact Or.inl rfl | exact Or.inr rfl))) (fun _ _ _ _ _ => (pts_one (pt_cmpR op_notN (pv 5) pe_non (nomark _)))) (fun _ _ _ _ _ => (pv 5))))))
theorem kp_joined (T : Tx K mg) : PySem.W.keepIn K (.ref (ga K "joined")) = true := T.F_joined.kp
theorem b_joined (T : Tx K mg) : Binds K T.fd_joined ["first", "second"] [] := T.F_joined.bindsN fun _ _ _ _ _ _ us hl => match us, hl with | [_, _], _ => rfl
theorem sc_joined : FnScope n_joined ["first", "second"] (defScope s_joined) := ⟨rfl, rfl, rfl, by decide +kernel, rfl, by decide +kernel, by decide +kernel⟩
theorem ok_joined (T : Tx K mg) : FnOk P w K mg base CX0 3 (ga K "joined") T.fd_joined ["first", "second"] (sp_joined K) := by
  refine T.F_joined.ok sc_joined (fun _ _ _ _ h => h.1) (fun cdv A outer s H vs Q E hr h => ⟨t_joined K, PSs.nox ?_, h.2⟩)
  exact (pss_cons (ps_if (PW.pt (pw_or (pt_cmpR (op_eqNil hr.units0) (pv 0) (pe_lst pa_nil) (nomark _)) (pw_or (pt_cmpR (op_eqNil hr.units0) (pv 1) (pe_lst pa_nil) (nomark _)) (pw_or1 (pt_cmpR op_ne (pe_fld (pe_ix ix_list (pv 0) (pe_un un_neg pe_int) (fun _ _ => rfl)) rfl) (pe_fld (pe_ix ix_list (pv 1) pe_int (fun _ _ => rfl)) rfl) (nomark _)))))) (pss_one (ps_ret (pe_op op_cat (pv 0) (pv 1))))
    pss_nil)
    (pss_cons (ps_par (i := 2) (j := 3) rfl sc_joined.nd rfl rfl (by decide) rfl rfl (pa_cons (pe_ix ix_list (pv 0) (pe_un un_neg pe_int) (fun _ _ => rfl)) (pa_cons (pe_ix ix_list (pv 1) pe_int (fun _ _ => rfl)) pa_nil)) (by rfl))
    (pss_one (ps_ret (pe_op op_cat (pe_op op_cat (pe_slice sl_list (pv 0) po_none (po_some (pe_un un_neg pe_int))) (pe_lst (pa_cons (pe_make T.m_Segment (ok_Segment_init T) (hr.mono (by decide)) (by rfl) T.g_Segment (b_Segment_init T) .nil pass0 (pa_cons (pe_fld (pv 2) rfl) (pa_cons (pe_fld (pv 3) rfl) (pa_cons (pe_fld (pv 2) rfl) (pa_cons (pe_fld (pv 2) rfl) pa_nil))))) pa_nil))) (pe_slice sl_list (pv 1) (po_some pe_int) po_none))))))
theorem kp_moments_of (T : Tx K mg) : PySem.W.keepIn K (.ref (ga K "moments_of")) = true := T.F_moments_of.kp
theorem b_moments_of (T : Tx K mg) : Binds K T.fd_moments_of ["fast", "slow"] [] := T.F_moments_of.bindsN fun _ _ _ _ _ _ us hl => match us, hl with | [_, _], _ => rfl
theorem sc_moments_of : FnScope n_moments_of ["fast", "slow"] (defScope s_moments_of) := ⟨rfl, rfl, rfl, by decide +kernel, rfl, by decide +kernel, by decide +kernel⟩
theorem ok_moments_of (T : Tx K mg) : FnOk P w K mg base CX0 2 (ga K "moments_of") T.fd_moments_of ["fast", "slow"] (sp_moments_of K) := by
  refine T.F_moments_of.ok sc_moments_of (fun _ _ _ _ h => h.1) (fun cdv A outer s H vs Q E hr h => ⟨t_moments_of K, PSs.nox ?_, h.2⟩)
  exact (pss_cons (ps_par (i := 2) (j := 3) rfl sc_moments_of.nd rfl rfl (by decide) rfl rfl (pa_cons (pe_lc (own := [("segment", 6)]) (g := (gName 6)) (tt := tYes) rfl sc_moments_of.nd (pi_list (pe_op op_cat (pv 0) (pv 1))) (blkOk_by (own := [("segment", 6)]) (N := n_moments_of) (sc := (defScope s_moments_of)) (by decide +kernel)) (fun _ _ _ _ _ => (pg_name (i := 6) sc_moments_of.nd rfl (by first | exact Or.inl rfl | exact Or.inr rfl))) (fun _ _ _ _ _ => pts_nil) (fun _ _ _ _ _ => (pe_fld (pv 6) rfl))) (pa_cons (pe_lst (pa_cons (pe_fld (pe_ix ix_list (pv 0) pe_int (fun _ _ => rfl)) rfl) pa_nil)) pa_nil)) (by rfl))
    (pss_cons (ps_while PassesOwn.never (pt_cmpR (op_neD hr.units) (pv 2) (pe_lst pa_nil) (nomark _)) (pss_cons (ps_set (i := 4) sc_moments_of.nd rfl (by first | exact Or.inl rfl | exact Or.inr rfl) (pe_ix ix_list (pv 2) pe_int (fun _ _ => rfl)))
    (pss_cons (ps_for PassesOwn.never rfl (pi_list (pv 2)) (pg_name (i := 5) sc_moments_of.nd rfl (by first | exact Or.inl rfl | exact Or.inr rfl))
    (pss_one (ps_set (i := 4) sc_moments_of.nd rfl (by first | exact Or.inl rfl | exact Or.inr rfl) (pe_ifExp (pt_val (pe_call (ok_is_less T) (hr.mono (by decide)) (by rfl) T.g_is_less (kp_is_less T) (b_is_less T) .nil pass0 (pa_cons (pv 5) (pa_cons (pv 4) pa_nil)))) (pv 5) (pv 4)))))
    (pss_cons (ps_expr (pe_bm PySem.F.plainAttrs_list PySem.F.slot_list_append PySem.F.type_list_append mt_append (pv 3) (pa_cons (pv 4) pa_nil)))
    (pss_one (ps_setLc (i := 2) (own := [("moment", 5)]) (g := (gName 5)) (tt := (tTest (tOp (rNeD K) (tVar 5) (tVar 4)))) rfl sc_moments_of.nd rfl rfl (sw_true rfl rfl rfl (by decide +kernel)) (pi_list (pv 2)) (blkOk_by (own := [("moment", 5)]) (N := n_moments_of) (sc := (defScope s_moments_of)) (by decide +kernel)) (fun _ _ _ _ _ => (pg_name (i := 5) sc_moments_of.nd rfl (by first | exact Or.inl rfl | exact Or.inr rfl))) (fun _ _ _ _ _ => (pts_one (pt_cmpR (op_neD hr.units) (pv 5) (pv 4) (nomark _)))) (fun _ _ _ _ _ => (pv 5))))))))
    (pss_one (ps_ret (pv 3)))))
theorem kp_rate_at (T : Tx K mg) : PySem.W.keepIn K (.ref (ga K "rate_at")) = true := T.F_rate_at.kp
theorem b_rate_at (T : Tx K mg) : Binds K T.fd_rate_at ["lane", "moment"] [] := T.F_rate_at.bindsN fun _ _ _ _ _ _ us hl => match us, hl with | [_, _], _ => rfl
theorem sc_rate_at : FnScope n_rate_at ["lane", "moment"] (defScope s_rate_at) := ⟨rfl, rfl, rfl, by decide +kernel, rfl, by decide +kernel, by decide +kernel⟩
theorem ok_rate_at (T : Tx K mg) : FnOk P w K mg base CX0 2 (ga K "rate_at") T.fd_rate_at ["lane", "moment"] (sp_rate_at K) := by
  refine T.F_rate_at.ok sc_rate_at (fun _ _ _ _ h => h.1) (fun cdv A outer s H vs Q E hr h => ⟨t_rate_at K, PSs.nox ?_, h.2⟩)
  exact (pss_cons (ps_for PassesOwn.never rfl (pi_list (pv 0)) (pg_name (i := 2) sc_rate_at.nd rfl (by first | exact Or.inl rfl | exact Or.inr rfl))
    (pss_one (ps_if (pt_val (pe_call (ok_is_less T) (hr.mono (by decide)) (by rfl) T.g_is_less (kp_is_less T) (b_is_less T) .nil pass0 (pa_cons (pv 1) (pa_cons (pe_fld (pv 2) rfl) pa_nil)))) (pss_one (ps_ret (pe_fld (pv 2) rfl)))
    pss_nil)))
    (pss_one (ps_ret (pe_glob (by rfl) T.g_ZERO rfl))))
theorem kp_switch_moment (T : Tx K mg) : PySem.W.keepIn K (.ref (ga K "switch_moment")) = true := T.F_switch_moment.kp
theorem b_switch_moment (T : Tx K mg) : Binds K T.fd_switch_moment ["fast", "slow", "amount"] [] := T.F_switch_moment.bindsN fun _ _ _ _ _ _ us hl => match us, hl with | [_, _, _], _ => rfl
theorem sc_switch_moment : FnScope n_switch_moment ["fast", "slow", "amount"] (defScope s_switch_moment) := ⟨rfl, rfl, rfl, by decide +kernel, rfl, by decide +kernel, by decide +kernel⟩
theorem ok_switch_moment (T : Tx K mg) : FnOk P w K mg base CX0 6 (ga K "switch_moment") T.fd_switch_moment ["fast", "slow", "amount"] (sp_switch_moment K) := by
  refine T.F_switch_moment.ok sc_switch_moment (fun _ _ _ _ h => h.1) (fun cdv A outer s H vs Q E hr h => ⟨t_switch_moment K, PSs.nox ?_, h.2⟩)
  exact (pss_cons (ps_par (i := 3) (j := 4) rfl sc_switch_moment.nd rfl rfl (by decide) rfl rfl (pa_cons (pe_call (ok_minus T) (hr.mono (by decide)) (by rfl) T.g_minus (kp_minus T) (b_minus T) .nil pass0 (pa_cons (pv 2) (pa_cons (pe_call (ok_capacity_of T) (hr.mono (by decide)) (by rfl) T.g_capacity_of (kp_capacity_of T) (b_capacity_of T) .nil pass0 (pa_cons (pv 1) pa_nil)) pa_nil))) (pa_cons (pe_call (ok_moments_of T) (hr.mono (by decide)) (by rfl) T.g_moments_of (kp_moments_of T) (b_moments_of T) .nil pass0 (pa_cons (pv 0) (pa_cons (pv 1) pa_nil))) pa_nil)) (by rfl))
    (pss_cons (ps_for PassesOwn.never rfl (pi_zip (by rfl) T.n_zip (pa_cons (pv 4) (pa_cons (pe_slice sl_list (pv 4) (po_some pe_int) po_none) pa_nil))) (pg_tup rfl (pgs_cons (pg_name (i := 5) sc_switch_moment.nd rfl (by first | exact Or.inl rfl | exact Or.inr rfl)) (pgs_cons (pg_name (i := 6) sc_switch_moment.nd rfl (by first | exact Or.inl rfl | exact Or.inr rfl)) pgs_nil)))
    (pss_cons (ps_set (i := 7) sc_switch_moment.nd rfl (by first | exact Or.inl rfl | exact Or.inr rfl) (pe_call (ok_minus T) (hr.mono (by decide)) (by rfl) T.g_minus (kp_minus T) (b_minus T) .nil pass0 (pa_cons (pe_call (ok_rate_at T) (hr.mono (by decide)) (by rfl) T.g_rate_at (kp_rate_at T) (b_rate_at T) .nil pass0 (pa_cons (pv 0) (pa_cons (pv 5) pa_nil))) (pa_cons (pe_call (ok_rate_at T) (hr.mono (by decide)) (by rfl) T.g_rate_at (kp_rate_at T) (b_rate_at T) .nil pass0 (pa_cons (pv 1) (pa_cons (pv 5) pa_nil))) pa_nil))))
    (pss_cons (ps_set (i := 8) sc_switch_moment.nd rfl (by first | exact Or.inl rfl | exact Or.inr rfl) (pe_call (ok_times T) (hr.mono (by decide)) (by rfl) T.g_times (kp_times T) (b_times T) .nil pass0 (pa_cons (pv 7) (pa_cons (pe_call (ok_minus T) (hr.mono (by decide)) (by rfl) T.g_minus (kp_minus T) (b_minus T) .nil pass0 (pa_cons (pv 6) (pa_cons (pv 5) pa_nil))) pa_nil))))
    (pss_cons (ps_if (pt_not (pt_val (pe_call (ok_is_less T) (hr.mono (by decide)) (by rfl) T.g_is_less (kp_is_less T) (b_is_less T) .nil pass0 (pa_cons (pv 8) (pa_cons (pv 3) pa_nil))))) (pss_one (ps_ret (pe_call (ok_plus T) (hr.mono (by decide)) (by rfl) T.g_plus (kp_plus T) (b_plus T) .nil pass0 (pa_cons (pv 5) (pa_cons (pe_call (ok_divided T) (hr.mono (by decide)) (by rfl) T.g_divided (kp_divided T) (b_divided T) .nil pass0 (pa_cons (pv 3) (pa_cons (pv 7) pa_nil))) pa_nil)))))
    pss_nil)
    (pss_one (ps_set (i := 3) sc_switch_moment.nd rfl (by first | exact Or.inl rfl | exact Or.inr rfl) (pe_call (ok_minus T) (hr.mono (by decide)) (by rfl) T.g_minus (kp_minus T) (b_minus T) .nil pass0 (pa_cons (pv 3) (pa_cons (pv 8) pa_nil)))))))))
    (pss_one (ps_ret (pe_ix ix_list (pv 4) (pe_un un_neg pe_int) (fun _ _ => rfl))))))
theorem kp_slowest_lane (T : Tx K mg) : PySem.W.keepIn K (.ref (ga K "slowest_lane")) = true := T.F_slowest_lane.kp
theorem b_slowest_lane (T : Tx K mg) : Binds K T.fd_slowest_lane ["lanes", "amount"] [] := T.F_slowest_lane.bindsN fun _ _ _ _ _ _ us hl => match us, hl with | [_, _], _ => rfl
theorem sc_slowest_lane : FnScope n_slowest_lane ["lanes", "amount"] (defScope s_slowest_lane) := ⟨rfl, rfl, rfl, by decide +kernel, rfl, by decide +kernel, by decide +kernel⟩
theorem ok_slowest_lane (T : Tx K mg) : FnOk P w K mg base CX0 6 (ga K "slowest_lane") T.fd_slowest_lane ["lanes", "amount"] (sp_slowest_lane K) := by
  refine T.F_slowest_lane.ok sc_slowest_lane (fun _ _ _ _ h => h.1) (fun cdv A outer s H vs Q E hr h => ⟨t_slowest_lane K, PSs.nox ?_, h.2⟩)
  exact (pss_cons (ps_set (i := 2) sc_slowest_lane.nd rfl (by first | exact Or.inl rfl | exact Or.inr rfl) pe_non)
    (pss_cons (ps_for PassesOwn.never rfl (pi_enum (by rfl) T.n_enumerate (pa_cons (pv 0) pa_nil)) (pg_tup rfl (pgs_cons (pg_name (i := 3) sc_slowest_lane.nd rfl (by first | exact Or.inl rfl | exact Or.inr rfl)) (pgs_cons (pg_name (i := 4) sc_slowest_lane.nd rfl (by first | exact Or.inl rfl | exact Or.inr rfl)) pgs_nil)))
    (pss_one (ps_if (pt_not (pt_val (pe_call (ok_is_less T) (hr.mono (by decide)) (by rfl) T.g_is_less (kp_is_less T) (b_is_less T) .nil pass0 (pa_cons (pe_call (ok_capacity_of T) (hr.mono (by decide)) (by rfl) T.g_capacity_of (kp_capacity_of T) (b_capacity_of T) .nil pass0 (pa_cons (pv 4) pa_nil)) (pa_cons (pv 1) pa_nil))))) (pss_one (ps_set (i := 2) sc_slowest_lane.nd rfl (by first | exact Or.inl rfl | exact Or.inr rfl) (pv 3)))
    pss_nil)))
    (pss_one (ps_ret (pv 2)))))
theorem kp_descending (T : Tx K mg) : PySem.W.keepIn K (.ref (ga K "descending")) = true := T.F_descending.kp
theorem b_descending (T : Tx K mg) : Binds K T.fd_descending ["values"] [] := T.F_descending.bindsN fun _ _ _ _ _ _ us hl => match us, hl with | [_], _ => rfl
theorem sc_descending : FnScope n_descending ["values"] (defScope s_descending) := ⟨rfl, rfl, rfl, by decide +kernel, rfl, by decide +kernel, by decide +kernel⟩
theorem ok_descending (T : Tx K mg) : FnOk P w K mg base CX0 2 (ga K "descending") T.fd_descending ["values"] (sp_descending K) := by
  refine T.F_descending.ok sc_descending (fun _ _ _ _ h => h.1) (fun cdv A outer s H vs Q E hr h => ⟨t_descending K, PSs.nox ?_, h.2⟩)
  exact (pss_cons (ps_set (i := 1) sc_descending.nd rfl (by first | exact Or.inl rfl | exact Or.inr rfl) (pe_lst pa_nil))
    (pss_cons (ps_for PassesOwn.never rfl (pi_enum (by rfl) T.n_enumerate (pa_cons (pv 0) pa_nil)) (pg_tup rfl (pgs_cons (pg_name (i := 2) sc_descending.nd rfl (by first | exact Or.inl rfl | exact Or.inr rfl)) (pgs_cons (pg_name (i := 3) sc_descending.nd rfl (by first | exact Or.inl rfl | exact Or.inr rfl)) pgs_nil)))
    (pss_cons (ps_set (i := 4) sc_descending.nd rfl (by first | exact Or.inl rfl | exact Or.inr rfl) (pe_callB call_len_seq (by rfl) T.n_len (by decide +kernel) (pa_cons (pv 1) pa_nil)))
    (pss_cons (ps_while PassesOwn.never (PW.pt (pw_and (pt_cmpR op_gt (pv 4) pe_int (nomark _)) (pw_and1 (pt_val (pe_call (ok_is_less T) (hr.mono (by decide)) (by rfl) T.g_is_less (kp_is_less T) (b_is_less T) .nil pass0 (pa_cons (pe_ix ix_list (pv 0) (pe_ix ix_list (pv 1) (pe_op op_sub (pv 4) pe_int) (fun _ _ => rfl)) (fun _ _ => rfl)) (pa_cons (pv 3) pa_nil))))))) (pss_one (ps_aug (i := 4) sc_descending.nd rfl (by first | exact Or.inl rfl | exact Or.inr rfl) pe_int ip_sub)))
    (pss_one (ps_if (pt_val (pe_call (ok_is_less T) (hr.mono (by decide)) (by rfl) T.g_is_less (kp_is_less T) (b_is_less T) .nil pass0 (pa_cons (pe_glob (by rfl) T.g_ZERO rfl) (pa_cons (pv 3) pa_nil)))) (pss_one (ps_expr (pe_bm PySem.F.plainAttrs_list PySem.F.slot_list_insert PySem.F.type_list_insert mt_insert (pv 1) (pa_cons (pv 4) (pa_cons (pv 2) pa_nil)))))
    pss_nil)))))
    (pss_one (ps_ret (pv 1)))))
theorem kp_cut_stretch (T : Tx K mg) : PySem.W.keepIn K (.ref (ga K "cut_stretch")) = true := T.F_cut_stretch.kp
theorem b_cut_stretch (T : Tx K mg) : Binds K T.fd_cut_stretch ["length", "speeds", "amounts"] [] := T.F_cut_stretch.bindsN fun _ _ _ _ _ _ us hl => match us, hl with | [_, _, _], _ => rfl
theorem sc_cut_stretch : FnScope n_cut_stretch ["length", "speeds", "amounts"] (defScope s_cut_stretch) := ⟨rfl, rfl, rfl, by decide +kernel, rfl, by decide +kernel, by decide +kernel⟩
theorem ok_cut_stretch (T : Tx K mg) : FnOk P w K mg base CX0 7 (ga K "cut_stretch") T.fd_cut_stretch ["length", "speeds", "amounts"] (sp_cut_stretch K) := by
  refine T.F_cut_stretch.ok sc_cut_stretch (fun _ _ _ _ h => h.1) (fun cdv A outer s H vs Q E hr h => ⟨t_cut_stretch K, PSs.nox ?_, h.2⟩)
  exact (pss_cons (ps_setLc (i := 3) (own := [("at", 6)]) (g := (gName 6)) (tt := tYes) rfl sc_cut_stretch.nd rfl rfl (sw_true rfl rfl rfl (by decide +kernel)) (pi_list (pe_call (ok_descending T) (hr.mono (by decide)) (by rfl) T.g_descending (kp_descending T) (b_descending T) .nil pass0 (pa_cons (pv 1) pa_nil))) (blkOk_by (own := [("at", 6)]) (N := n_cut_stretch) (sc := (defScope s_cut_stretch)) (by decide +kernel)) (fun _ _ _ _ _ => (pg_name (i := 6) sc_cut_stretch.nd rfl (by first | exact Or.inl rfl | exact Or.inr rfl))) (fun _ _ _ _ _ => pts_nil) (fun _ _ _ _ _ => (pe_lst (pa_cons (pe_make T.m_Segment (ok_Segment_init T) (hr.mono (by decide)) (by rfl) T.g_Segment (b_Segment_init T) .nil pass0 (pa_cons (pe_glob (by rfl) T.g_ZERO rfl) (pa_cons (pv 0) (pa_cons (pe_ix ix_list (pv 1) (pv 6) (fun _ _ => rfl)) (pa_cons (pv 6) pa_nil))))) pa_nil))))
    (pss_cons (ps_set (i := 4) sc_cut_stretch.nd rfl (by first | exact Or.inl rfl | exact Or.inr rfl) (pe_lst pa_nil))
    (pss_cons (ps_for PassesOwn.never rfl (pi_list (pe_call (ok_descending T) (hr.mono (by decide)) (by rfl) T.g_descending (kp_descending T) (b_descending T) .nil pass0 (pa_cons (pv 2) pa_nil))) (pg_name (i := 5) sc_cut_stretch.nd rfl (by first | exact Or.inl rfl | exact Or.inr rfl))
    (pss_cons (ps_set (i := 6) sc_cut_stretch.nd rfl (by first | exact Or.inl rfl | exact Or.inr rfl) (pe_call (ok_slowest_lane T) (hr.mono (by decide)) (by rfl) T.g_slowest_lane (kp_slowest_lane T) (b_slowest_lane T) .nil pass0 (pa_cons (pv 3) (pa_cons (pe_ix ix_list (pv 2) (pv 5) (fun _ _ => rfl)) pa_nil))))
    (pss_cons (ps_if (pt_cmpR op_isN (pv 6) pe_non (nomark _)) (pss_one (ps_ret pe_non))
    pss_nil)
    (pss_cons (ps_set (i := 7) sc_cut_stretch.nd rfl (by first | exact Or.inl rfl | exact Or.inr rfl) (pe_ix ix_list (pv 3) (pv 6) (fun _ _ => rfl)))
    (pss_cons (ps_set (i := 8) sc_cut_stretch.nd rfl (by first | exact Or.inl rfl | exact Or.inr rfl) (pe_ifExp (pt_cmpR op_lt (pe_op op_add (pv 6) pe_int) (pe_callB call_len_seq (by rfl) T.n_len (by decide +kernel) (pa_cons (pv 3) pa_nil)) (nomark _)) (pe_ix ix_list (pv 3) (pe_op op_add (pv 6) pe_int) (fun _ _ => rfl)) (pe_lst (pa_cons (pe_make T.m_Segment (ok_Segment_init T) (hr.mono (by decide)) (by rfl) T.g_Segment (b_Segment_init T) .nil pass0 (pa_cons (pe_glob (by rfl) T.g_ZERO rfl) (pa_cons (pv 0) (pa_cons (pe_glob (by rfl) T.g_ZERO rfl) (pa_cons pe_non pa_nil))))) pa_nil))))
    (pss_cons (ps_set (i := 9) sc_cut_stretch.nd rfl (by first | exact Or.inl rfl | exact Or.inr rfl) (pe_call (ok_switch_moment T) (hr.mono (by decide)) (by rfl) T.g_switch_moment (kp_switch_moment T) (b_switch_moment T) .nil pass0 (pa_cons (pv 7) (pa_cons (pv 8) (pa_cons (pe_ix ix_list (pv 2) (pv 5) (fun _ _ => rfl)) pa_nil)))))
    (pss_cons (ps_set (i := 10) sc_cut_stretch.nd rfl (by first | exact Or.inl rfl | exact Or.inr rfl) (pe_call (ok_joined T) (hr.mono (by decide)) (by rfl) T.g_joined (kp_joined T) (b_joined T) .nil pass0 (pa_cons (pe_call (ok_lane_between T) (hr.mono (by decide)) (by rfl) T.g_lane_between (kp_lane_between T) (b_lane_between T) .nil pass0 (pa_cons (pv 7) (pa_cons (pe_glob (by rfl) T.g_ZERO rfl) (pa_cons (pv 9) pa_nil)))) (pa_cons (pe_call (ok_lane_between T) (hr.mono (by decide)) (by rfl) T.g_lane_between (kp_lane_between T) (b_lane_between T) .nil pass0 (pa_cons (pv 8) (pa_cons (pv 9) (pa_cons (pv 0) pa_nil)))) pa_nil))))
    (pss_cons (ps_set (i := 11) sc_cut_stretch.nd rfl (by first | exact Or.inl rfl | exact Or.inr rfl) (pe_call (ok_joined T) (hr.mono (by decide)) (by rfl) T.g_joined (kp_joined T) (b_joined T) .nil pass0 (pa_cons (pe_call (ok_lane_between T) (hr.mono (by decide)) (by rfl) T.g_lane_between (kp_lane_between T) (b_lane_between T) .nil pass0 (pa_cons (pv 8) (pa_cons (pe_glob (by rfl) T.g_ZERO rfl) (pa_cons (pv 9) pa_nil)))) (pa_cons (pe_call (ok_lane_between T) (hr.mono (by decide)) (by rfl) T.g_lane_between (kp_lane_between T) (b_lane_between T) .nil pass0 (pa_cons (pv 7) (pa_cons (pv 9) (pa_cons (pv 0) pa_nil)))) pa_nil))))
    (pss_cons (ps_setSl (pe_lst (pa_cons (pv 11) pa_nil)) (pv 3) (pv 6) (pe_op op_add (pv 6) pe_int))
    (pss_one (ps_expr (pe_bm PySem.F.plainAttrs_list PySem.F.slot_list_extend PySem.F.type_list_extend mt_extend (pv 4) (pa_cons (pe_lc (own := [("one", 12)]) (g := (gName 12)) (tt := (tTest (tOp rNotN1 (tFld K (tVar 12) "owner") (tC .non)))) rfl sc_cut_stretch.nd (pi_list (pv 10)) (blkOk_by (own := [("one", 12)]) (N := n_cut_stretch) (sc := (defScope s_cut_stretch)) (by decide +kernel)) (fun _ _ _ _ _ => (pg_name (i := 12) sc_cut_stretch.nd rfl (by first | exact Or.inl rfl | exact Or.inr rfl))) (fun _ _ _ _ _ => (pts_one (pt_cmpR op_notN (pe_fld (pv 12) rfl) pe_non (nomark _)))) (fun _ _ _ _ _ => (pe_tup (pa_cons (pv 5) (pa_cons (pe_fld (pv 12) rfl) (pa_cons (pe_fld (pv 12) rfl) (pa_cons (pe_fld (pv 12) rfl) pa_nil))))))) pa_nil)))))))))))))
    (pss_one (ps_ret (pv 4))))))
theorem kp_stretch_plan (T : Tx K mg) : PySem.W.keepIn K (.ref (ga K "stretch_plan")) = true := T.F_stretch_plan.kp
theorem b_stretch_plan (T : Tx K mg) : Binds K T.fd_stretch_plan ["length", "speeds", "amounts"] [] := T.F_stretch_plan.bindsN fun _ _ _ _ _ _ us hl => match us, hl with | [_, _, _], _ => rfl
theorem sc_stretch_plan : FnScope n_stretch_plan ["length", "speeds", "amounts"] (defScope s_stretch_plan) := ⟨rfl, rfl, rfl, by decide +kernel, rfl, by decide +kernel, by decide +kernel⟩
theorem ok_stretch_plan (T : Tx K mg) : FnOk P w K mg base CX0 8 (ga K "stretch_plan") T.fd_stretch_plan ["length", "speeds", "amounts"] (sp_stretch_plan K) := by
  refine T.F_stretch_plan.ok sc_stretch_plan (fun _ _ _ _ h => h.1) (fun cdv A outer s H vs Q E hr h => ⟨t_stretch_plan K, PSs.nox ?_, h.2⟩)
  exact (pss_one (ps_ret (pe_call (ok_cut_stretch T) (hr.mono (by decide)) (by rfl) T.g_cut_stretch (kp_cut_stretch T) (b_cut_stretch T) .nil pass0 (pa_cons (pe_tup (pa_cons (pv 0) (pa_cons pe_int pa_nil))) (pa_cons (pe_lc (own := [("speed", 3)]) (g := (gName 3)) (tt := tYes) rfl sc_stretch_plan.nd (pi_seq (pv 1)) (blkOk_by (own := [("speed", 3)]) (N := n_stretch_plan) (sc := (defScope s_stretch_plan)) (by decide +kernel)) (fun _ _ _ _ _ => (pg_name (i := 3) sc_stretch_plan.nd rfl (by first | exact Or.inl rfl | exact Or.inr rfl))) (fun _ _ _ _ _ => pts_nil) (fun _ _ _ _ _ => (pe_tup (pa_cons (pv 3) (pa_cons pe_int pa_nil))))) (pa_cons (pe_lc (own := [("amount", 4)]) (g := (gName 4)) (tt := tYes) rfl sc_stretch_plan.nd (pi_seq (pv 2)) (blkOk_by (own := [("amount", 4)]) (N := n_stretch_plan) (sc := (defScope s_stretch_plan)) (by decide +kernel)) (fun _ _ _ _ _ => (pg_name (i := 4) sc_stretch_plan.nd rfl (by first | exact Or.inl rfl | exact Or.inr rfl))) (fun _ _ _ _ _ => pts_nil) (fun _ _ _ _ _ => (pe_tup (pa_cons (pv 4) (pa_cons pe_int pa_nil))))) pa_nil))))))
theorem kp_l_pen (T : Tx K mg) : PySem.W.keepIn K (.ref (ga K "_law_pen")) = true := T.F_l_pen.kp
theorem b_l_pen (T : Tx K mg) : Binds K T.fd_l_pen ["_law_script"] [] := T.F_l_pen.bindsN fun _ _ _ _ _ _ us hl => match us, hl with | [_], _ => rfl
theorem sc_l_pen : FnScope n_l_pen ["_law_script"] (defScope s_l_pen) := ⟨rfl, rfl, rfl, by decide +kernel, rfl, by decide +kernel, by decide +kernel⟩
theorem ok_l_pen (T : Tx K mg) : FnOk P w K mg base CX0 1 (ga K "_law_pen") T.fd_l_pen ["_law_script"] (sp_l_pen K) := by
  refine T.F_l_pen.ok sc_l_pen (fun _ _ _ _ h => h.1) (fun cdv A outer s H vs Q E hr h => ⟨t_l_pen K, PSs.nox ?_, h.2⟩)
  exact (pss_one (ps_ret (pe_disp (pps_cons pe_str (pe_callTy call_list_of (by rfl) T.n_list (by decide +kernel) (pa_cons (pe_slice sl_list (pv 0) po_none (po_some pe_int)) pa_nil)) (pps_cons pe_str pe_int (pps_cons pe_str pe_int pps_nil))) (by rfl) (by rfl) (fun z => by cases z) (by decide))))
theorem kp_l_draw (T : Tx K mg) : PySem.W.keepIn K (.ref (ga K "_law_draw")) = true := T.F_l_draw.kp
theorem b_l_draw (T : Tx K mg) : Binds K T.fd_l_draw ["_law_pen_here", "_law_many"] [] := T.F_l_draw.bindsN fun _ _ _ _ _ _ us hl => match us, hl with | [_, _], _ => rfl
theorem sc_l_draw : FnScope n_l_draw ["_law_pen_here", "_law_many"] (defScope s_l_draw) := ⟨rfl, rfl, rfl, by decide +kernel, rfl, by decide +kernel, by decide +kernel⟩
theorem ok_l_draw (T : Tx K mg) : FnOk P w K mg base CX0 1 (ga K "_law_draw") T.fd_l_draw ["_law_pen_here", "_law_many"] (sp_l_draw K) := by
  refine T.F_l_draw.ok sc_l_draw (fun _ _ _ _ h => h.1) (fun cdv A outer s H vs Q E hr h => ⟨t_l_draw K, PSs.nox ?_, h.2⟩)
  exact (pss_cons (ps_if (pt_cmpR op_gt (pe_dget (hu_of hr) (pv 0) pe_str (fun _ _ => rfl)) pe_int (nomark _)) (pss_cons (ps_set (i := 2) sc_l_draw.nd rfl (by first | exact Or.inl rfl | exact Or.inr rfl) (pe_op op_mod (pe_dget (hu_of hr) (pv 0) pe_str (fun _ _ => rfl)) (pv 1)))
    (pss_cons (ps_dput (hu_of hr) (pv 0) pe_str (pe_op op_fdivW (pe_dget (hu_of hr) (pv 0) pe_str (fun _ _ => rfl)) (pv 1)) rfl)
    (pss_one (ps_ret (pv 2)))))
    pss_nil)
    (pss_cons (ps_set (i := 3) sc_l_draw.nd rfl (by first | exact Or.inl rfl | exact Or.inr rfl) (pe_dget (hu_of hr) (pv 0) pe_str (fun _ _ => rfl)))
    (pss_cons (ps_dput (hu_of hr) (pv 0) pe_str (pe_op op_add (pv 3) pe_int) rfl)
    (pss_cons (ps_set (i := 4) sc_l_draw.nd rfl (by first | exact Or.inl rfl | exact Or.inr rfl) (pe_op op_add (pe_op op_mulW pe_int (pv 3)) pe_int))
    (pss_cons (ps_if (pt_cmpR (op_neD hr.units) (pe_dget (hu_of hr) (pv 0) pe_str (fun _ _ => rfl)) (pe_lst pa_nil) (nomark _)) (pss_one (ps_set (i := 4) sc_l_draw.nd rfl (by first | exact Or.inl rfl | exact Or.inr rfl) (pe_ix ix_list (pe_dget (hu_of hr) (pv 0) pe_str (fun _ _ => rfl)) (pe_op op_mod (pv 3) (pe_callB call_len_seq (by rfl) T.n_len (by decide +kernel) (pa_cons (pe_dget (hu_of hr) (pv 0) pe_str (fun _ _ => rfl)) pa_nil))) (fun _ _ => rfl))))
    pss_nil)
    (pss_cons (ps_if (PW.pt (pw_and (pt_cmpR op_lt (pv 3) (pe_callB call_len_seq (by rfl) T.n_len (by decide +kernel) (pa_cons (pe_dget (hu_of hr) (pv 0) pe_str (fun _ _ => rfl)) pa_nil)) (nomark _)) (pw_and1 (pt_cmpR op_ge (pe_callB call_abs (by rfl) T.n_abs (by decide +kernel) (pa_cons (pv 4) pa_nil)) (pe_op op_pow pe_int pe_int) (nomark _))))) (pss_cons (ps_dput (hu_of hr) (pv 0) pe_str (pe_op op_fdivW (pe_op op_sub (pe_callB call_abs (by rfl) T.n_abs (by decide +kernel) (pa_cons (pv 4) pa_nil)) (pe_op op_pow pe_int pe_int)) (pv 1)) rfl)
    (pss_one (ps_ret (pe_op op_mod (pe_op op_sub (pe_callB call_abs (by rfl) T.n_abs (by decide +kernel) (pa_cons (pv 4) pa_nil)) (pe_op op_pow pe_int pe_int)) (pv 1)))))
    pss_nil)
    (pss_cons (ps_set (i := 5) sc_l_draw.nd rfl (by first | exact Or.inl rfl | exact Or.inr rfl) (pe_op op_mod (pe_op op_add (pe_op op_add (pe_op op_add (pe_op op_mulW (pe_op op_mod (pv 4) pe_int) pe_int) (pe_op op_mulW (pe_op op_mulW pe_int (pv 3)) (pv 3))) (pe_op op_mulW pe_int (pv 3))) pe_int) pe_int))
    (pss_cons (ps_set (i := 5) sc_l_draw.nd rfl (by first | exact Or.inl rfl | exact Or.inr rfl) (pe_op op_mod (pe_op op_mulW (pv 5) (pe_op op_add (pv 5) pe_int)) pe_int))
    (pss_one (ps_ret (pe_op op_mod (pe_op op_fdivW (pe_op op_mod (pe_op op_mulW (pv 5) (pv 5)) pe_int) pe_int) (pv 1))))))))))))
theorem kp_l_pick (T : Tx K mg) : PySem.W.keepIn K (.ref (ga K "_law_pick")) = true := T.F_l_pick.kp
theorem b_l_pick (T : Tx K mg) : Binds K T.fd_l_pick ["_law_pen_here", "_law_items"] [] := T.F_l_pick.bindsN fun _ _ _ _ _ _ us hl => match us, hl with | [_, _], _ => rfl
theorem sc_l_pick : FnScope n_l_pick ["_law_pen_here", "_law_items"] (defScope s_l_pick) := ⟨rfl, rfl, rfl, by decide +kernel, rfl, by decide +kernel, by decide +kernel⟩
theorem ok_l_pick (T : Tx K mg) : FnOk P w K mg base CX0 2 (ga K "_law_pick") T.fd_l_pick ["_law_pen_here", "_law_items"] (sp_l_pick K) := by
  refine T.F_l_pick.ok sc_l_pick (fun _ _ _ _ h => h.1) (fun cdv A outer s H vs Q E hr h => ⟨t_l_pick K, PSs.nox ?_, h.2⟩)
  exact (pss_one (ps_ret (pe_ix ix_list (pv 1) (pe_call (ok_l_draw T) (hr.mono (by decide)) (by rfl) T.g_l_draw (kp_l_draw T) (b_l_draw T) .nil pass0 (pa_cons (pv 0) (pa_cons (pe_callB call_len_seq (by rfl) T.n_len (by decide +kernel) (pa_cons (pv 1) pa_nil)) pa_nil))) (fun _ _ => rfl))))
theorem kp_l_shuffled (T : Tx K mg) : PySem.W.keepIn K (.ref (ga K "_law_shuffled")) = true := T.F_l_shuffled.kp
theorem b_l_shuffled (T : Tx K mg) : Binds K T.fd_l_shuffled ["_law_pen_here", "_law_items"] [] := T.F_l_shuffled.bindsN fun _ _ _ _ _ _ us hl => match us, hl with | [_, _], _ => rfl
theorem sc_l_shuffled : FnScope n_l_shuffled ["_law_pen_here", "_law_items"] (defScope s_l_shuffled) := ⟨rfl, rfl, rfl, by decide +kernel, rfl, by decide +kernel, by decide +kernel⟩
theorem ok_l_shuffled (T : Tx K mg) : FnOk P w K mg base CX0 2 (ga K "_law_shuffled") T.fd_l_shuffled ["_law_pen_here", "_law_items"] (sp_l_shuffled K) := by
  refine T.F_l_shuffled.ok sc_l_shuffled (fun _ _ _ _ h => h.1) (fun cdv A outer s H vs Q E hr h => ⟨t_l_shuffled K, PSs.nox ?_, h.2⟩)
  exact (pss_cons (ps_par (i := 2) (j := 3) rfl sc_l_shuffled.nd rfl rfl (by decide) rfl rfl (pa_cons (pe_callTy call_list_of (by rfl) T.n_list (by decide +kernel) (pa_cons (pv 1) pa_nil)) (pa_cons (pe_lst pa_nil) pa_nil)) (by rfl))
    (pss_cons (ps_while PassesOwn.never (pt_cmpR (op_neD hr.units) (pv 2) (pe_lst pa_nil) (nomark _)) (pss_one (ps_expr (pe_bm PySem.F.plainAttrs_list PySem.F.slot_list_append PySem.F.type_list_append mt_append (pv 3) (pa_cons (pe_bm PySem.F.plainAttrs_list PySem.F.slot_list_pop PySem.F.type_list_pop mt_popAt (pv 2) (pa_cons (pe_call (ok_l_draw T) (hr.mono (by decide)) (by rfl) T.g_l_draw (kp_l_draw T) (b_l_draw T) .nil pass0 (pa_cons (pv 0) (pa_cons (pe_callB call_len_seq (by rfl) T.n_len (by decide +kernel) (pa_cons (pv 2) pa_nil)) pa_nil))) pa_nil)) pa_nil)))))
    (pss_one (ps_ret (pv 3)))))
theorem kp_l_gcd (T : Tx K mg) : PySem.W.keepIn K (.ref (ga K "_law_gcd")) = true := T.F_l_gcd.kp
theorem b_l_gcd (T : Tx K mg) : Binds K T.fd_l_gcd ["_law_one", "_law_two"] [] := T.F_l_gcd.bindsN fun _ _ _ _ _ _ us hl => match us, hl with | [_, _], _ => rfl
theorem sc_l_gcd : FnScope n_l_gcd ["_law_one", "_law_two"] (defScope s_l_gcd) := ⟨rfl, rfl, rfl, by decide +kernel, rfl, by decide +kernel, by decide +kernel⟩
theorem ok_l_gcd (T : Tx K mg) : FnOk P w K mg base CX0 1 (ga K "_law_gcd") T.fd_l_gcd ["_law_one", "_law_two"] (sp_l_gcd K) := by
  refine T.F_l_gcd.ok sc_l_gcd (fun _ _ _ _ h => h.1) (fun cdv A outer s H vs Q E hr h => ⟨t_l_gcd K, PSs.nox ?_, h.2⟩)
  exact (pss_cons (ps_while PassesOwn.never (pt_cmpR op_gt (pv 1) pe_int (nomark _)) (pss_one (ps_par (i := 0) (j := 1) rfl sc_l_gcd.nd rfl rfl (by decide) rfl rfl (pa_cons (pv 1) (pa_cons (pe_op op_mod (pv 0) (pv 1)) pa_nil)) (by rfl))))
    (pss_one (ps_ret (pv 0))))
theorem kp_l_fraction (T : Tx K mg) : PySem.W.keepIn K (.ref (ga K "_law_fraction")) = true := T.F_l_fraction.kp
theorem b_l_fraction (T : Tx K mg) : Binds K T.fd_l_fraction ["_law_upper", "_law_lower"] [] := T.F_l_fraction.bindsN fun _ _ _ _ _ _ us hl => match us, hl with | [_, _], _ => rfl
theorem sc_l_fraction : FnScope n_l_fraction ["_law_upper", "_law_lower"] (defScope s_l_fraction) := ⟨rfl, rfl, rfl, by decide +kernel, rfl, by decide +kernel, by decide +kernel⟩
theorem ok_l_fraction (T : Tx K mg) : FnOk P w K mg base CX0 2 (ga K "_law_fraction") T.fd_l_fraction ["_law_upper", "_law_lower"] (sp_l_fraction K) := by
  refine T.F_l_fraction.ok sc_l_fraction (fun _ _ _ _ h => h.1) (fun cdv A outer s H vs Q E hr h => ⟨t_l_fraction K, PSs.nox ?_, h.2⟩)
  exact (pss_cons (ps_set (i := 2) sc_l_fraction.nd rfl (by first | exact Or.inl rfl | exact Or.inr rfl) (pe_call (ok_l_gcd T) (hr.mono (by decide)) (by rfl) T.g_l_gcd (kp_l_gcd T) (b_l_gcd T) .nil pass0 (pa_cons (pe_callB call_abs (by rfl) T.n_abs (by decide +kernel) (pa_cons (pv 0) pa_nil)) (pa_cons (pv 1) pa_nil))))
    (pss_one (ps_ret (pe_tup (pa_cons (pe_op op_fdivW (pv 0) (pv 2)) (pa_cons (pe_op op_fdivW (pv 1) (pv 2)) pa_nil))))))
theorem kp_l_less (T : Tx K mg) : PySem.W.keepIn K (.ref (ga K "_law_less")) = true := T.F_l_less.kp
theorem b_l_less (T : Tx K mg) : Binds K T.fd_l_less ["_law_one", "_law_two"] [] := T.F_l_less.bindsN fun _ _ _ _ _ _ us hl => match us, hl with | [_, _], _ => rfl
theorem sc_l_less : FnScope n_l_less ["_law_one", "_law_two"] (defScope s_l_less) := ⟨rfl, rfl, rfl, by decide +kernel, rfl, by decide +kernel, by decide +kernel⟩
theorem ok_l_less (T : Tx K mg) : FnOk P w K mg base CX0 1 (ga K "_law_less") T.fd_l_less ["_law_one", "_law_two"] (sp_l_less K) := by
  refine T.F_l_less.ok sc_l_less (fun _ _ _ _ h => h.1) (fun cdv A outer s H vs Q E hr h => ⟨t_l_less K, PSs.nox ?_, h.2⟩)
  exact (pss_one (ps_ret (pe_cmpR op_lt (pe_op op_mulW (pe_ix ix_tup (pv 0) pe_int (fun _ _ => rfl)) (pe_ix ix_tup (pv 1) pe_int (fun _ _ => rfl))) (pe_op op_mulW (pe_ix ix_tup (pv 1) pe_int (fun _ _ => rfl)) (pe_ix ix_tup (pv 0) pe_int (fun _ _ => rfl))) (nomark _))))
theorem kp_l_plus (T : Tx K mg) : PySem.W.keepIn K (.ref (ga K "_law_plus")) = true := T.F_l_plus.kp
theorem b_l_plus (T : Tx K mg) : Binds K T.fd_l_plus ["_law_one", "_law_two"] [] := T.F_l_plus.bindsN fun _ _ _ _ _ _ us hl => match us, hl with | [_, _], _ => rfl
theorem sc_l_plus : FnScope n_l_plus ["_law_one", "_law_two"] (defScope s_l_plus) := ⟨rfl, rfl, rfl, by decide +kernel, rfl, by decide +kernel, by decide +kernel⟩
theorem ok_l_plus (T : Tx K mg) : FnOk P w K mg base CX0 3 (ga K "_law_plus") T.fd_l_plus ["_law_one", "_law_two"] (sp_l_plus K) := by
  refine T.F_l_plus.ok sc_l_plus (fun _ _ _ _ h => h.1) (fun cdv A outer s H vs Q E hr h => ⟨t_l_plus K, PSs.nox ?_, h.2⟩)
  exact (pss_one (ps_ret (pe_call (ok_l_fraction T) (hr.mono (by decide)) (by rfl) T.g_l_fraction (kp_l_fraction T) (b_l_fraction T) .nil pass0 (pa_cons (pe_op op_add (pe_op op_mulW (pe_ix ix_tup (pv 0) pe_int (fun _ _ => rfl)) (pe_ix ix_tup (pv 1) pe_int (fun _ _ => rfl))) (pe_op op_mulW (pe_ix ix_tup (pv 1) pe_int (fun _ _ => rfl)) (pe_ix ix_tup (pv 0) pe_int (fun _ _ => rfl)))) (pa_cons (pe_op op_mulW (pe_ix ix_tup (pv 0) pe_int (fun _ _ => rfl)) (pe_ix ix_tup (pv 1) pe_int (fun _ _ => rfl))) pa_nil)))))
theorem kp_l_minus (T : Tx K mg) : PySem.W.keepIn K (.ref (ga K "_law_minus")) = true := T.F_l_minus.kp
theorem b_l_minus (T : Tx K mg) : Binds K T.fd_l_minus ["_law_one", "_law_two"] [] := T.F_l_minus.bindsN fun _ _ _ _ _ _ us hl => match us, hl with | [_, _], _ => rfl
theorem sc_l_minus : FnScope n_l_minus ["_law_one", "_law_two"] (defScope s_l_minus) := ⟨rfl, rfl, rfl, by decide +kernel, rfl, by decide +kernel, by decide +kernel⟩
theorem ok_l_minus (T : Tx K mg) : FnOk P w K mg base CX0 3 (ga K "_law_minus") T.fd_l_minus ["_law_one", "_law_two"] (sp_l_minus K) := by
  refine T.F_l_minus.ok sc_l_minus (fun _ _ _ _ h => h.1) (fun cdv A outer s H vs Q E hr h => ⟨t_l_minus K, PSs.nox ?_, h.2⟩)
  exact (pss_one (ps_ret (pe_call (ok_l_fraction T) (hr.mono (by decide)) (by rfl) T.g_l_fraction (kp_l_fraction T) (b_l_fraction T) .nil pass0 (pa_cons (pe_op op_sub (pe_op op_mulW (pe_ix ix_tup (pv 0) pe_int (fun _ _ => rfl)) (pe_ix ix_tup (pv 1) pe_int (fun _ _ => rfl))) (pe_op op_mulW (pe_ix ix_tup (pv 1) pe_int (fun _ _ => rfl)) (pe_ix ix_tup (pv 0) pe_int (fun _ _ => rfl)))) (pa_cons (pe_op op_mulW (pe_ix ix_tup (pv 0) pe_int (fun _ _ => rfl)) (pe_ix ix_tup (pv 1) pe_int (fun _ _ => rfl))) pa_nil)))))
theorem kp_l_times (T : Tx K mg) : PySem.W.keepIn K (.ref (ga K "_law_times")) = true := T.F_l_times.kp
theorem b_l_times (T : Tx K mg) : Binds K T.fd_l_times ["_law_one", "_law_two"] [] := T.F_l_times.bindsN fun _ _ _ _ _ _ us hl => match us, hl with | [_, _], _ => rfl
theorem sc_l_times : FnScope n_l_times ["_law_one", "_law_two"] (defScope s_l_times) := ⟨rfl, rfl, rfl, by decide +kernel, rfl, by decide +kernel, by decide +kernel⟩
theorem ok_l_times (T : Tx K mg) : FnOk P w K mg base CX0 3 (ga K "_law_times") T.fd_l_times ["_law_one", "_law_two"] (sp_l_times K) := by
  refine T.F_l_times.ok sc_l_times (fun _ _ _ _ h => h.1) (fun cdv A outer s H vs Q E hr h => ⟨t_l_times K, PSs.nox ?_, h.2⟩)
  exact (pss_one (ps_ret (pe_call (ok_l_fraction T) (hr.mono (by decide)) (by rfl) T.g_l_fraction (kp_l_fraction T) (b_l_fraction T) .nil pass0 (pa_cons (pe_op op_mulW (pe_ix ix_tup (pv 0) pe_int (fun _ _ => rfl)) (pe_ix ix_tup (pv 1) pe_int (fun _ _ => rfl))) (pa_cons (pe_op op_mulW (pe_ix ix_tup (pv 0) pe_int (fun _ _ => rfl)) (pe_ix ix_tup (pv 1) pe_int (fun _ _ => rfl))) pa_nil)))))
theorem kp_l_is_int (T : Tx K mg) : PySem.W.keepIn K (.ref (ga K "_law_is_int")) = true := T.F_l_is_int.kp
theorem b_l_is_int (T : Tx K mg) : Binds K T.fd_l_is_int ["_law_thing"] [] := T.F_l_is_int.bindsN fun _ _ _ _ _ _ us hl => match us, hl with | [_], _ => rfl
theorem sc_l_is_int : FnScope n_l_is_int ["_law_thing"] (defScope s_l_is_int) := ⟨rfl, rfl, rfl, by decide +kernel, rfl, by decide +kernel, by decide +kernel⟩
theorem ok_l_is_int (T : Tx K mg) : FnOk P w K mg base CX0 1 (ga K "_law_is_int") T.fd_l_is_int ["_law_thing"] (sp_l_is_int K) := by
  refine T.F_l_is_int.ok sc_l_is_int (fun _ _ _ _ h => h.1) (fun cdv A outer s H vs Q E hr h => ⟨t_l_is_int K, PSs.nox ?_, h.2⟩)
  exact (pss_one (ps_ret (pe_and (pe_callB call_isi (by rfl) T.n_isinstance (by decide +kernel) (pa_cons (pv 0) (pa_cons (pe_bltn (by rfl) T.n_int (by decide +kernel) rfl) pa_nil))) (pe_one (pe_not (pe_callB call_isi (by rfl) T.n_isinstance (by decide +kernel) (pa_cons (pv 0) (pa_cons (pe_bltn (by rfl) T.n_bool (by decide +kernel) rfl) pa_nil))))))))
theorem kp_l_is_fraction (T : Tx K mg) : PySem.W.keepIn K (.ref (ga K "_law_is_fraction")) = true := T.F_l_is_fraction.kp
theorem b_l_is_fraction (T : Tx K mg) : Binds K T.fd_l_is_fraction ["_law_thing"] [] := T.F_l_is_fraction.bindsN fun _ _ _ _ _ _ us hl => match us, hl with | [_], _ => rfl
theorem sc_l_is_fraction : FnScope n_l_is_fraction ["_law_thing"] (defScope s_l_is_fraction) := ⟨rfl, rfl, rfl, by decide +kernel, rfl, by decide +kernel, by decide +kernel⟩
theorem ok_l_is_fraction (T : Tx K mg) : FnOk P w K mg base CX0 2 (ga K "_law_is_fraction") T.fd_l_is_fraction ["_law_thing"] (sp_l_is_fraction K) := by
  refine T.F_l_is_fraction.ok sc_l_is_fraction (fun _ _ _ _ h => h.1) (fun cdv A outer s H vs Q E hr h => ⟨t_l_is_fraction K, PSs.nox ?_, h.2⟩)
  exact (pss_cons (ps_if (PW.pt (pw_or (pt_not (pt_val (pe_callB call_isi (by rfl) T.n_isinstance (by decide +kernel) (pa_cons (pv 0) (pa_cons (pe_bltn (by rfl) T.n_tuple (by decide +kernel) rfl) pa_nil))))) (pw_or (pt_cmpR op_ne (pe_callB call_len_seq (by rfl) T.n_len (by decide +kernel) (pa_cons (pv 0) pa_nil)) pe_int (nomark _)) (pw_or (pt_not (pt_val (pe_call (ok_l_is_int T) (hr.mono (by decide)) (by rfl) T.g_l_is_int (kp_l_is_int T) (b_l_is_int T) .nil pass0 (pa_cons (pe_ix ix_tup (pv 0) pe_int (fun _ _ => rfl)) pa_nil)))) (pw_or1 (pt_not (pt_val (pe_call (ok_l_is_int T) (hr.mono (by decide)) (by rfl) T.g_l_is_int (kp_l_is_int T) (b_l_is_int T) .nil pass0 (pa_cons (pe_ix ix_tup (pv 0) pe_int (fun _ _ => rfl)) pa_nil))))))))) (pss_one (ps_ret pe_bl))
    pss_nil)
    (pss_one (ps_ret (pe_and (pe_cmpR op_gt (pe_ix ix_tup (pv 0) pe_int (fun _ _ => rfl)) pe_int (nomark _)) (pe_one (pe_cmpR op_eq (pe_call (ok_l_gcd T) (hr.mono (by decide)) (by rfl) T.g_l_gcd (kp_l_gcd T) (b_l_gcd T) .nil pass0 (pa_cons (pe_callB call_abs (by rfl) T.n_abs (by decide +kernel) (pa_cons (pe_ix ix_tup (pv 0) pe_int (fun _ _ => rfl)) pa_nil)) (pa_cons (pe_ix ix_tup (pv 0) pe_int (fun _ _ => rfl)) pa_nil))) pe_int (nomark _)))))))
theorem kp_l_overlap (T : Tx K mg) : PySem.W.keepIn K (.ref (ga K "_law_overlap")) = true := T.F_l_overlap.kp
theorem b_l_overlap (T : Tx K mg) : Binds K T.fd_l_overlap ["_law_one", "_law_two"] [] := T.F_l_overlap.bindsN fun _ _ _ _ _ _ us hl => match us, hl with | [_, _], _ => rfl
theorem sc_l_overlap : FnScope n_l_overlap ["_law_one", "_law_two"] (defScope s_l_overlap) := ⟨rfl, rfl, rfl, by decide +kernel, rfl, by decide +kernel, by decide +kernel⟩
theorem ok_l_overlap (T : Tx K mg) : FnOk P w K mg base CX0 2 (ga K "_law_overlap") T.fd_l_overlap ["_law_one", "_law_two"] (sp_l_overlap K) := by
  refine T.F_l_overlap.ok sc_l_overlap (fun _ _ _ _ h => h.1) (fun cdv A outer s H vs Q E hr h => ⟨t_l_overlap K, PSs.nox ?_, h.2⟩)
  exact (pss_one (ps_ret (pe_and (pe_call (ok_l_less T) (hr.mono (by decide)) (by rfl) T.g_l_less (kp_l_less T) (b_l_less T) .nil pass0 (pa_cons (pe_ix ix_tup (pv 0) pe_int (fun _ _ => rfl)) (pa_cons (pe_ix ix_tup (pv 1) pe_int (fun _ _ => rfl)) pa_nil))) (pe_one (pe_call (ok_l_less T) (hr.mono (by decide)) (by rfl) T.g_l_less (kp_l_less T) (b_l_less T) .nil pass0 (pa_cons (pe_ix ix_tup (pv 1) pe_int (fun _ _ => rfl)) (pa_cons (pe_ix ix_tup (pv 0) pe_int (fun _ _ => rfl)) pa_nil)))))))
theorem kp_l_can (T : Tx K mg) : PySem.W.keepIn K (.ref (ga K "_law_can")) = true := T.F_l_can.kp
theorem b_l_can (T : Tx K mg) : Binds K T.fd_l_can ["_law_length", "_law_speeds", "_law_amounts"] [] := T.F_l_can.bindsN fun _ _ _ _ _ _ us hl => match us, hl with | [_, _, _], _ => rfl
theorem sc_l_can : FnScope n_l_can ["_law_length", "_law_speeds", "_law_amounts"] (defScope s_l_can) := ⟨rfl, rfl, rfl, by decide +kernel, rfl, by decide +kernel, by decide +kernel⟩
theorem ok_l_can (T : Tx K mg) : FnOk P w K mg base CX0 1 (ga K "_law_can") T.fd_l_can ["_law_length", "_law_speeds", "_law_amounts"] (sp_l_can K) := by
  refine T.F_l_can.ok sc_l_can (fun _ _ _ _ h => h.1) (fun cdv A outer s H vs Q E hr h => ⟨t_l_can K, PSs.nox ?_, h.2⟩)
  exact (pss_cons (ps_asg (pe_tup (pa_cons (pe_callBK cr_sortedRev (by rfl) T.n_sorted (by decide +kernel) (pa_cons (pv 1) pa_nil) (pk_cons pe_bl pk_nil)) (pa_cons (pe_callBK cr_sortedRev (by rfl) T.n_sorted (by decide +kernel) (pa_cons (pv 2) pa_nil) (pk_cons pe_bl pk_nil)) pa_nil))) (pg_tup rfl (pgs_cons (pg_name (i := 3) sc_l_can.nd rfl (by first | exact Or.inl rfl | exact Or.inr rfl)) (pgs_cons (pg_name (i := 4) sc_l_can.nd rfl (by first | exact Or.inl rfl | exact Or.inr rfl)) pgs_nil))))
    (pss_one (ps_ret (pe_cmpR (op_eqD hr.units) (pe_lc (own := [("_law_k", 5)]) (g := (gName 5)) (tt := (tTest (tOp rGtI (tCB (rSum K) (tCons (tSl (rSlL K) (tVar 4) tNoPart (tPart (tVar 5))) tNil)) (tOp rMulW (tVar 0) (tCB (rSum K) (tCons (tSl (rSlL K) (tVar 3) tNoPart (tPart (tVar 5))) tNil)))))) rfl sc_l_can.nd (pi_range2 rfl T.n_range (pa_cons pe_int (pa_cons (pe_op op_add (pe_callB call_len_seq (by rfl) T.n_len (by decide +kernel) (pa_cons (pv 4) pa_nil)) pe_int) pa_nil))) (blkOk_by (own := [("_law_k", 5)]) (N := n_l_can) (sc := (defScope s_l_can)) (by decide +kernel)) (fun _ _ _ _ _ => (pg_name (i := 5) sc_l_can.nd rfl (by first | exact Or.inl rfl | exact Or.inr rfl))) (fun _ _ _ _ _ => (pts_one (pt_cmpR op_gt (pe_callB (cr_sum rfl) (by rfl) T.n_sum (by decide +kernel) (pa_cons (pe_slice sl_list (pv 4) po_none (po_some (pv 5))) pa_nil)) (pe_op op_mulW (pv 0) (pe_callB (cr_sum rfl) (by rfl) T.n_sum (by decide +kernel) (pa_cons (pe_slice sl_list (pv 3) po_none (po_some (pv 5))) pa_nil))) (nomark _)))) (fun _ _ _ _ _ => (pv 5))) (pe_lst pa_nil) (nomark _)))))
theorem kp_l_poured (T : Tx K mg) : PySem.W.keepIn K (.ref (ga K "_law_poured")) = true := T.F_l_poured.kp
theorem b_l_poured (T : Tx K mg) : Binds K T.fd_l_poured ["_law_length", "_law_speeds", "_law_amounts"] [] := T.F_l_poured.bindsN fun _ _ _ _ _ _ us hl => match us, hl with | [_, _, _], _ => rfl
theorem sc_l_poured : FnScope n_l_poured ["_law_length", "_law_speeds", "_law_amounts"] (defScope s_l_poured) := ⟨rfl, rfl, rfl, by decide +kernel, rfl, by decide +kernel, by decide +kernel⟩
theorem ok_l_poured (T : Tx K mg) : FnOk P w K mg base CX0 1 (ga K "_law_poured") T.fd_l_poured ["_law_length", "_law_speeds", "_law_amounts"] (sp_l_poured K) := by
  refine T.F_l_poured.ok sc_l_poured (fun _ _ _ _ h => h.1) (fun cdv A outer s H vs Q E hr h => ⟨t_l_poured K, PSs.nox ?_, h.2⟩)
  exact (pss_cons (ps_par (i := 3) (j := 4) rfl sc_l_poured.nd rfl rfl (by decide) rfl rfl (pa_cons (pe_callBK cr_sortedRev (by rfl) T.n_sorted (by decide +kernel) (pa_cons (pv 1) pa_nil) (pk_cons pe_bl pk_nil)) (pa_cons (pe_lst pa_nil) pa_nil)) (by rfl))
    (pss_cons (ps_for PassesOwn.never rfl (pi_list (pe_callBK cr_sortedRev (by rfl) T.n_sorted (by decide +kernel) (pa_cons (pv 2) pa_nil) (pk_cons pe_bl pk_nil))) (pg_name (i := 5) sc_l_poured.nd rfl (by first | exact Or.inl rfl | exact Or.inr rfl))
    (pss_one (ps_expr (pe_bm PySem.F.plainAttrs_list PySem.F.slot_list_append PySem.F.type_list_append mt_append (pv 4) (pa_cons (pe_callB (call_min2 rfl) (by rfl) T.n_min (by decide +kernel) (pa_cons (pv 5) (pa_cons (pe_op op_sub (pe_op op_mulW (pv 0) (pe_callB (cr_sum rfl) (by rfl) T.n_sum (by decide +kernel) (pa_cons (pe_slice sl_list (pv 3) po_none (po_some (pe_op op_add (pe_callB call_len_seq (by rfl) T.n_len (by decide +kernel) (pa_cons (pv 4) pa_nil)) pe_int))) pa_nil))) (pe_callB (cr_sum rfl) (by rfl) T.n_sum (by decide +kernel) (pa_cons (pv 4) pa_nil))) pa_nil))) pa_nil)))))
    (pss_one (ps_ret (pv 4)))))
theorem kp_l_is_in_stretch (T : Tx K mg) : PySem.W.keepIn K (.ref (ga K "_law_is_in_stretch")) = true := T.F_l_is_in_stretch.kp
theorem b_l_is_in_stretch (T : Tx K mg) : Binds K T.fd_l_is_in_stretch ["_law_length", "_law_speeds", "_law_amounts", "_law_row"] [] := T.F_l_is_in_stretch.bindsN fun _ _ _ _ _ _ us hl => match us, hl with | [_, _, _, _], _ => rfl
theorem sc_l_is_in_stretch : FnScope n_l_is_in_stretch ["_law_length", "_law_speeds", "_law_amounts", "_law_row"] (defScope s_l_is_in_stretch) := ⟨rfl, rfl, rfl, by decide +kernel, rfl, by decide +kernel, by decide +kernel⟩
theorem ok_l_is_in_stretch (T : Tx K mg) : FnOk P w K mg base CX0 3 (ga K "_law_is_in_stretch") T.fd_l_is_in_stretch ["_law_length", "_law_speeds", "_law_amounts", "_law_row"] (sp_l_is_in_stretch K) := by
  refine T.F_l_is_in_stretch.ok sc_l_is_in_stretch (fun _ _ _ _ h => h.1) (fun cdv A outer s H vs Q E hr h => ⟨t_l_is_in_stretch K, PSs.nox ?_, h.2⟩)
  exact (pss_cons (ps_if (PW.pt (pw_or (pt_not (pt_val (pe_callB call_isi (by rfl) T.n_isinstance (by decide +kernel) (pa_cons (pv 3) (pa_cons (pe_bltn (by rfl) T.n_tuple (by decide +kernel) rfl) pa_nil))))) (pw_or (pt_cmpR op_ne (pe_callB call_len_seq (by rfl) T.n_len (by decide +kernel) (pa_cons (pv 3) pa_nil)) pe_int (nomark _)) (pw_or (pt_not (pt_val (pe_call (ok_l_is_int T) (hr.mono (by decide)) (by rfl) T.g_l_is_int (kp_l_is_int T) (b_l_is_int T) .nil pass0 (pa_cons (pe_ix ix_tup (pv 3) pe_int (fun _ _ => rfl)) pa_nil)))) (pw_or1 (pt_not (pt_val (pe_call (ok_l_is_int T) (hr.mono (by decide)) (by rfl) T.g_l_is_int (kp_l_is_int T) (b_l_is_int T) .nil pass0 (pa_cons (pe_ix ix_tup (pv 3) pe_int (fun _ _ => rfl)) pa_nil))))))))) (pss_one (ps_ret pe_bl))
    pss_nil)
    (pss_cons (ps_if (PW.pt (pw_or (pt_not (pt_chain op_le op_lt pe_int (pe_ix ix_tup (pv 3) pe_int (fun _ _ => rfl)) (pe_callB call_len_seq (by rfl) T.n_len (by decide +kernel) (pa_cons (pv 2) pa_nil)))) (pw_or1 (pt_not (pt_chain op_le op_lt pe_int (pe_ix ix_tup (pv 3) pe_int (fun _ _ => rfl)) (pe_callB call_len_seq (by rfl) T.n_len (by decide +kernel) (pa_cons (pv 1) pa_nil))))))) (pss_one (ps_ret pe_bl))
    pss_nil)
    (pss_cons (ps_if (PW.pt (pw_or (pt_not (pt_val (pe_call (ok_l_is_fraction T) (hr.mono (by decide)) (by rfl) T.g_l_is_fraction (kp_l_is_fraction T) (b_l_is_fraction T) .nil pass0 (pa_cons (pe_ix ix_tup (pv 3) pe_int (fun _ _ => rfl)) pa_nil)))) (pw_or (pt_not (pt_val (pe_call (ok_l_is_fraction T) (hr.mono (by decide)) (by rfl) T.g_l_is_fraction (kp_l_is_fraction T) (b_l_is_fraction T) .nil pass0 (pa_cons (pe_ix ix_tup (pv 3) pe_int (fun _ _ => rfl)) pa_nil)))) (pw_or1 (pt_not (pt_val (pe_call (ok_l_less T) (hr.mono (by decide)) (by rfl) T.g_l_less (kp_l_less T) (b_l_less T) .nil pass0 (pa_cons (pe_ix ix_tup (pv 3) pe_int (fun _ _ => rfl)) (pa_cons (pe_ix ix_tup (pv 3) pe_int (fun _ _ => rfl)) pa_nil))))))))) (pss_one (ps_ret pe_bl))
    pss_nil)
    (pss_one (ps_ret (pe_and (pe_cmpR op_ge (pe_ix ix_tup (pe_ix ix_tup (pv 3) pe_int (fun _ _ => rfl)) pe_int (fun _ _ => rfl)) pe_int (nomark _)) (pe_one (pe_not (pe_call (ok_l_less T) (hr.mono (by decide)) (by rfl) T.g_l_less (kp_l_less T) (b_l_less T) .nil pass0 (pa_cons (pe_tup (pa_cons (pv 0) (pa_cons pe_int pa_nil))) (pa_cons (pe_ix ix_tup (pv 3) pe_int (fun _ _ => rfl)) pa_nil)))))))))))
theorem kp_l_does_stretch (T : Tx K mg) : PySem.W.keepIn K (.ref (ga K "_law_does_stretch")) = true := T.F_l_does_stretch.kp
theorem b_l_does_stretch (T : Tx K mg) : Binds K T.fd_l_does_stretch ["_law_length", "_law_speeds", "_law_amounts", "_law_told"] [] := T.F_l_does_stretch.bindsN fun _ _ _ _ _ _ us hl => match us, hl with | [_, _, _, _], _ => rfl
theorem sc_l_does_stretch : FnScope n_l_does_stretch ["_law_length", "_law_speeds", "_law_amounts", "_law_told"] (defScope s_l_does_stretch) := ⟨rfl, rfl, rfl, by decide +kernel, rfl, by decide +kernel, by decide +kernel⟩
theorem ok_l_does_stretch (T : Tx K mg) : FnOk P w K mg base CX0 4 (ga K "_law_does_stretch") T.fd_l_does_stretch ["_law_length", "_law_speeds", "_law_amounts", "_law_told"] (sp_l_does_stretch K) := by
  refine T.F_l_does_stretch.ok sc_l_does_stretch (fun _ _ _ _ h => h.1) (fun cdv A outer s H vs Q E hr h => ⟨t_l_does_stretch K, PSs.nox ?_, h.2⟩)
  exact (pss_cons (ps_if (pt_not (pt_val (pe_callB call_isi (by rfl) T.n_isinstance (by decide +kernel) (pa_cons (pv 3) (pa_cons (pe_bltn (by rfl) T.n_list (by decide +kernel) rfl) pa_nil))))) (pss_one (ps_ret pe_bl))
    pss_nil)
    (pss_cons (ps_if (pt_cmpR (op_neD hr.units) (pe_lc (own := [("_law_row", 12)]) (g := (gName 12)) (tt := (tNot (tB (tCall (sp_l_is_in_stretch K) [] E0 (tCons (tVar 0) (tCons (tVar 1) (tCons (tVar 2) (tCons (tVar 12) tNil)))))))) rfl sc_l_does_stretch.nd (pi_list (pv 3)) (blkOk_by (own := [("_law_row", 12)]) (N := n_l_does_stretch) (sc := (defScope s_l_does_stretch)) (by decide +kernel)) (fun _ _ _ _ _ => (pg_name (i := 12) sc_l_does_stretch.nd rfl (by first | exact Or.inl rfl | exact Or.inr rfl))) (fun _ _ _ _ _ => (pts_one (pt_not (pt_val (pe_call (ok_l_is_in_stretch T) (hr.mono (by decide)) (by rfl) T.g_l_is_in_stretch (kp_l_is_in_stretch T) (b_l_is_in_stretch T) .nil pass0 (pa_cons (pv 0) (pa_cons (pv 1) (pa_cons (pv 2) (pa_cons (pv 12) pa_nil))))))))) (fun _ _ _ _ _ => (pv 12))) (pe_lst pa_nil) (nomark _)) (pss_one (ps_ret pe_bl))
    pss_nil)
    (pss_cons (ps_for PassesOwn.never rfl (pi_range1 rfl T.n_range (pa_cons (pe_callB call_len_seq (by rfl) T.n_len (by decide +kernel) (pa_cons (pv 3) pa_nil)) pa_nil)) (pg_name (i := 4) sc_l_does_stretch.nd rfl (by first | exact Or.inl rfl | exact Or.inr rfl))
    (pss_cons (ps_set (i := 5) sc_l_does_stretch.nd rfl (by first | exact Or.inl rfl | exact Or.inr rfl) (pe_ix ix_list (pv 3) (pv 4) (fun _ _ => rfl)))
    (pss_cons (ps_setLc (i := 6) (own := [("_law_row", 12)]) (g := (gName 12)) (tt := (tAnd (tOr (tTest (tOp rEq (tOp (rIxT K) (tVar 12) (tC (.int 0))) (tOp (rIxT K) (tVar 5) (tC (.int 0))))) (tTest (tOp rEq (tOp (rIxT K) (tVar 12) (tC (.int 1))) (tOp (rIxT K) (tVar 5) (tC (.int 1)))))) (tB (tCall (sp_l_overlap K) [] E0 (tCons (tVar 5) (tCons (tVar 12) tNil)))))) rfl sc_l_does_stretch.nd rfl rfl (sw_true rfl rfl rfl (by decide +kernel)) (pi_list (pe_slice sl_list (pv 3) (po_some (pe_op op_add (pv 4) pe_int)) po_none)) (blkOk_by (own := [("_law_row", 12)]) (N := n_l_does_stretch) (sc := (defScope s_l_does_stretch)) (by decide +kernel)) (fun _ _ _ _ _ => (pg_name (i := 12) sc_l_does_stretch.nd rfl (by first | exact Or.inl rfl | exact Or.inr rfl))) (fun _ _ _ _ _ => (pts_one (PW.pt (pw_and (PW.pt (pw_or (pt_cmpR op_eq (pe_ix ix_tup (pv 12) pe_int (fun _ _ => rfl)) (pe_ix ix_tup (pv 5) pe_int (fun _ _ => rfl)) (nomark _)) (pw_or1 (pt_cmpR op_eq (pe_ix ix_tup (pv 12) pe_int (fun _ _ => rfl)) (pe_ix ix_tup (pv 5) pe_int (fun _ _ => rfl)) (nomark _))))) (pw_and1 (pt_val (pe_call (ok_l_overlap T) (hr.mono (by decide)) (by rfl) T.g_l_overlap (kp_l_overlap T) (b_l_overlap T) .nil pass0 (pa_cons (pv 5) (pa_cons (pv 12) pa_nil))))))))) (fun _ _ _ _ _ => (pv 12)))
    (pss_one (ps_if (pt_cmpR (op_neD hr.units) (pv 6) (pe_lst pa_nil) (nomark _)) (pss_one (ps_ret pe_bl))
    pss_nil)))))
    (pss_cons (ps_set (i := 7) sc_l_does_stretch.nd rfl (by first | exact Or.inl rfl | exact Or.inr rfl) (pe_op op_rep (pe_lst (pa_cons (pe_tup (pa_cons pe_int (pa_cons pe_int pa_nil))) pa_nil)) (pe_callB call_len_seq (by rfl) T.n_len (by decide +kernel) (pa_cons (pv 2) pa_nil))))
    (pss_cons (ps_for PassesOwn.never rfl (pi_list (pv 3)) (pg_tup rfl (pgs_cons (pg_name (i := 8) sc_l_does_stretch.nd rfl (by first | exact Or.inl rfl | exact Or.inr rfl)) (pgs_cons (pg_name (i := 9) sc_l_does_stretch.nd rfl (by first | exact Or.inl rfl | exact Or.inr rfl)) (pgs_cons (pg_name (i := 10) sc_l_does_stretch.nd rfl (by first | exact Or.inl rfl | exact Or.inr rfl)) (pgs_cons (pg_name (i := 11) sc_l_does_stretch.nd rfl (by first | exact Or.inl rfl | exact Or.inr rfl)) pgs_nil)))))
    (pss_one (ps_asg (pe_call (ok_l_plus T) (hr.mono (by decide)) (by rfl) T.g_l_plus (kp_l_plus T) (b_l_plus T) .nil pass0 (pa_cons (pe_ix ix_list (pv 7) (pv 8) (fun _ _ => rfl)) (pa_cons (pe_call (ok_l_times T) (hr.mono (by decide)) (by rfl) T.g_l_times (kp_l_times T) (b_l_times T) .nil pass0 (pa_cons (pe_tup (pa_cons (pe_ix ix_list (pv 1) (pv 9) (fun _ _ => rfl)) (pa_cons pe_int pa_nil))) (pa_cons (pe_call (ok_l_minus T) (hr.mono (by decide)) (by rfl) T.g_l_minus (kp_l_minus T) (b_l_minus T) .nil pass0 (pa_cons (pv 11) (pa_cons (pv 10) pa_nil))) pa_nil))) pa_nil))) (pg_sub (pv 7) (pv 8) set_list))))
    (pss_cons (ps_if (pt_cmpR (op_neD hr.units) (pv 7) (pe_lc (own := [("_law_amount", 13)]) (g := (gName 13)) (tt := tYes) rfl sc_l_does_stretch.nd (pi_list (pv 2)) (blkOk_by (own := [("_law_amount", 13)]) (N := n_l_does_stretch) (sc := (defScope s_l_does_stretch)) (by decide +kernel)) (fun _ _ _ _ _ => (pg_name (i := 13) sc_l_does_stretch.nd rfl (by first | exact Or.inl rfl | exact Or.inr rfl))) (fun _ _ _ _ _ => pts_nil) (fun _ _ _ _ _ => (pe_tup (pa_cons (pv 13) (pa_cons pe_int pa_nil))))) (nomark _)) (pss_one (ps_ret pe_bl))
    pss_nil)
    (pss_one (ps_ret (pe_or (pe_cmpR (op_eqD hr.units) (pv 1) (pe_lst pa_nil) (nomark _)) (pe_one (pe_cmpR op_le (pe_callB call_len_seq (by rfl) T.n_len (by decide +kernel) (pa_cons (pv 3) pa_nil)) (pe_op op_add (pe_callB call_len_seq (by rfl) T.n_len (by decide +kernel) (pa_cons (pv 2) pa_nil)) (pe_op op_mulW pe_int (pe_op op_sub (pe_callB call_len_seq (by rfl) T.n_len (by decide +kernel) (pa_cons (pv 1) pa_nil)) pe_int))) (nomark _))))))))))))
theorem kp_l_stretch_right (T : Tx K mg) : PySem.W.keepIn K (.ref (ga K "_law_stretch_right")) = true := T.F_l_stretch_right.kp
theorem b_l_stretch_right (T : Tx K mg) : Binds K T.fd_l_stretch_right ["_law_length", "_law_speeds", "_law_amounts"] [] := T.F_l_stretch_right.bindsN fun _ _ _ _ _ _ us hl => match us, hl with | [_, _, _], _ => rfl
theorem sc_l_stretch_right : FnScope n_l_stretch_right ["_law_length", "_law_speeds", "_law_amounts"] (defScope s_l_stretch_right) := ⟨rfl, rfl, rfl, by decide +kernel, rfl, by decide +kernel, by decide +kernel⟩
theorem ok_l_stretch_right (T : Tx K mg) : FnOkG P w K mg base CX0 9 (ga K "_law_stretch_right") T.fd_l_stretch_right ["_law_length", "_law_speeds", "_law_amounts"] (sp_l_stretch_right K) := by
  refine okG T.F_l_stretch_right sc_l_stretch_right (fun _ _ _ _ h => h.1) (fun cdv A outer s H vs Q E hr hG h => ⟨t_l_stretch_right K, PSs.nox ?_, h.2⟩)
  exact (pss_cons (ps_set (i := 3) sc_l_stretch_right.nd rfl (by first | exact Or.inl rfl | exact Or.inr rfl) (pe_callB (call_reprD hG hr.units) (by rfl) T.n_repr (by decide +kernel) (pa_cons (pe_tup (pa_cons (pv 1) (pa_cons (pv 2) pa_nil))) pa_nil)))
    (pss_cons (ps_for PassesOwn.never rfl (pi_tup (pe_tup (pa_cons (pe_tup (pa_cons (pv 1) (pa_cons (pv 2) pa_nil))) (pa_cons (pe_tup (pa_cons (pe_callTy call_tuple_of (by rfl) T.n_tuple (by decide +kernel) (pa_cons (pv 1) pa_nil)) (pa_cons (pe_callTy call_tuple_of (by rfl) T.n_tuple (by decide +kernel) (pa_cons (pv 2) pa_nil)) pa_nil))) pa_nil)))) (pg_name (i := 4) sc_l_stretch_right.nd rfl (by first | exact Or.inl rfl | exact Or.inr rfl))
    (pss_cons (ps_set (i := 5) sc_l_stretch_right.nd rfl (by first | exact Or.inl rfl | exact Or.inr rfl) (pe_call (ok_stretch_plan T) (hr.mono (by decide)) (by rfl) T.g_stretch_plan (kp_stretch_plan T) (b_stretch_plan T) .nil pass0 (pa_cons (pv 0) (pa_cons (pe_ix ix_tup (pv 4) pe_int (fun _ _ => rfl)) (pa_cons (pe_ix ix_tup (pv 4) pe_int (fun _ _ => rfl)) pa_nil)))))
    (pss_one (ps_if (pt_not (pt_val (pe_call (ok_l_can T) (hr.mono (by decide)) (by rfl) T.g_l_can (kp_l_can T) (b_l_can T) .nil pass0 (pa_cons (pv 0) (pa_cons (pv 1) (pa_cons (pv 2) pa_nil)))))) (pss_one (ps_if (pt_cmpR op_notN (pv 5) pe_non (nomark _)) (pss_one (ps_ret pe_bl))
    pss_nil))
    (pss_one (ps_if (pt_not (pt_val (pe_call (ok_l_does_stretch T) (hr.mono (by decide)) (by rfl) T.g_l_does_stretch (kp_l_does_stretch T) (b_l_does_stretch T) .nil pass0 (pa_cons (pv 0) (pa_cons (pv 1) (pa_cons (pv 2) (pa_cons (pv 5) pa_nil))))))) (pss_one (ps_ret pe_bl))
    pss_nil))))))
    (pss_one (ps_ret (pe_cmpR op_eq (pe_callB (call_reprD hG hr.units) (by rfl) T.n_repr (by decide +kernel) (pa_cons (pe_tup (pa_cons (pv 1) (pa_cons (pv 2) pa_nil))) pa_nil)) (pv 3) (nomark _))))))
theorem kp_l_great (T : Tx K mg) : PySem.W.keepIn K (.ref (ga K "_law_great")) = true := T.F_l_great.kp
theorem b_l_great (T : Tx K mg) : Binds K T.fd_l_great ["_law_pen_here", "_law_figures"] [] := T.F_l_great.bindsN fun _ _ _ _ _ _ us hl => match us, hl with | [_, _], _ => rfl
theorem sc_l_great : FnScope n_l_great ["_law_pen_here", "_law_figures"] (defScope s_l_great) := ⟨rfl, rfl, rfl, by decide +kernel, rfl, by decide +kernel, by decide +kernel⟩
theorem ok_l_great (T : Tx K mg) : FnOk P w K mg base CX0 2 (ga K "_law_great") T.fd_l_great ["_law_pen_here", "_law_figures"] (sp_l_great K) := by
  refine T.F_l_great.ok sc_l_great (fun _ _ _ _ h => h.1) (fun cdv A outer s H vs Q E hr h => ⟨t_l_great K, PSs.nox ?_, h.2⟩)
  exact (pss_cons (ps_set (i := 2) sc_l_great.nd rfl (by first | exact Or.inl rfl | exact Or.inr rfl) pe_int)
    (pss_cons (ps_for PassesOwn.never rfl (pi_range1 rfl T.n_range (pa_cons (pv 1) pa_nil)) (pg_name (i := 3) sc_l_great.nd rfl (by first | exact Or.inl rfl | exact Or.inr rfl))
    (pss_one (ps_set (i := 2) sc_l_great.nd rfl (by first | exact Or.inl rfl | exact Or.inr rfl) (pe_op op_add (pe_op op_mulW pe_int (pv 2)) (pe_call (ok_l_draw T) (hr.mono (by decide)) (by rfl) T.g_l_draw (kp_l_draw T) (b_l_draw T) .nil pass0 (pa_cons (pv 0) (pa_cons pe_int pa_nil)))))))
    (pss_one (ps_ret (pv 2)))))
theorem kp_l_drawn (T : Tx K mg) : PySem.W.keepIn K (.ref (ga K "_law_drawn")) = true := T.F_l_drawn.kp
theorem b_l_drawn (T : Tx K mg) : Binds K T.fd_l_drawn ["_law_pen_here", "_law_many", "_law_few"] [] := T.F_l_drawn.bindsN fun _ _ _ _ _ _ us hl => match us, hl with | [_, _, _], _ => rfl
theorem sc_l_drawn : FnScope n_l_drawn ["_law_pen_here", "_law_many", "_law_few"] (defScope s_l_drawn) := ⟨rfl, rfl, rfl, by decide +kernel, rfl, by decide +kernel, by decide +kernel⟩
theorem ok_l_drawn (T : Tx K mg) : FnOk P w K mg base CX0 3 (ga K "_law_drawn") T.fd_l_drawn ["_law_pen_here", "_law_many", "_law_few"] (sp_l_drawn K) := by
  refine T.F_l_drawn.ok sc_l_drawn (fun _ _ _ _ h => h.1) (fun cdv A outer s H vs Q E hr h => ⟨t_l_drawn K, PSs.nox ?_, h.2⟩)
  exact (pss_cons (ps_asg (pe_tup (pa_cons (pe_op op_add pe_int (pe_call (ok_l_draw T) (hr.mono (by decide)) (by rfl) T.g_l_draw (kp_l_draw T) (b_l_draw T) .nil pass0 (pa_cons (pv 0) (pa_cons pe_int pa_nil)))) (pa_cons (pe_op op_add pe_int (pe_call (ok_l_draw T) (hr.mono (by decide)) (by rfl) T.g_l_draw (kp_l_draw T) (b_l_draw T) .nil pass0 (pa_cons (pv 0) (pa_cons pe_int pa_nil)))) pa_nil))) (pg_tup rfl (pgs_cons (pg_name (i := 3) sc_l_drawn.nd rfl (by first | exact Or.inl rfl | exact Or.inr rfl)) (pgs_cons (pg_name (i := 4) sc_l_drawn.nd rfl (by first | exact Or.inl rfl | exact Or.inr rfl)) pgs_nil))))
    (pss_cons (ps_setLc (i := 5) (own := [("_law_k", 8)]) (g := (gName 8)) (tt := tYes) rfl sc_l_drawn.nd rfl rfl (sw_true rfl rfl rfl (by decide +kernel)) (pi_range1 rfl T.n_range (pa_cons (pe_op op_add pe_int (pe_call (ok_l_draw T) (hr.mono (by decide)) (by rfl) T.g_l_draw (kp_l_draw T) (b_l_draw T) .nil pass0 (pa_cons (pv 0) (pa_cons (pv 1) pa_nil)))) pa_nil)) (blkOk_by (own := [("_law_k", 8)]) (N := n_l_drawn) (sc := (defScope s_l_drawn)) (by decide +kernel)) (fun _ _ _ _ _ => (pg_name (i := 8) sc_l_drawn.nd rfl (by first | exact Or.inl rfl | exact Or.inr rfl))) (fun _ _ _ _ _ => pts_nil) (fun _ _ _ _ _ => (pe_op op_add pe_int (pe_call (ok_l_draw T) (hr.mono (by decide)) (by rfl) T.g_l_draw (kp_l_draw T) (b_l_draw T) .nil pass0 (pa_cons (pv 0) (pa_cons (pv 4) pa_nil))))))
    (pss_cons (ps_set (i := 6) sc_l_drawn.nd rfl (by first | exact Or.inl rfl | exact Or.inr rfl) (pe_call (ok_l_pick T) (hr.mono (by decide)) (by rfl) T.g_l_pick (kp_l_pick T) (b_l_pick T) .nil pass0 (pa_cons (pv 0) (pa_cons (pe_lst (pa_cons (pe_op op_mulW (pv 3) (pe_callB (cr_max rfl) (by rfl) T.n_max (by decide +kernel) (pa_cons (pv 5) pa_nil))) (pa_cons (pe_op op_mulW (pv 3) (pe_callB (cr_max rfl) (by rfl) T.n_max (by decide +kernel) (pa_cons (pv 5) pa_nil))) (pa_cons (pe_op op_add pe_int (pe_op op_fdivW (pe_op op_mulW (pv 3) (pe_callB (cr_sum rfl) (by rfl) T.n_sum (by decide +kernel) (pa_cons (pv 5) pa_nil))) (pv 2))) (pa_cons pe_int pa_nil))))) pa_nil))))
    (pss_cons (ps_setLc (i := 7) (own := [("_law_k", 8)]) (g := (gName 8)) (tt := tYes) rfl sc_l_drawn.nd rfl rfl (sw_true rfl rfl rfl (by decide +kernel)) (pi_range1 rfl T.n_range (pa_cons (pe_call (ok_l_draw T) (hr.mono (by decide)) (by rfl) T.g_l_draw (kp_l_draw T) (b_l_draw T) .nil pass0 (pa_cons (pv 0) (pa_cons (pe_op op_add (pv 2) pe_int) pa_nil))) pa_nil)) (blkOk_by (own := [("_law_k", 8)]) (N := n_l_drawn) (sc := (defScope s_l_drawn)) (by decide +kernel)) (fun _ _ _ _ _ => (pg_name (i := 8) sc_l_drawn.nd rfl (by first | exact Or.inl rfl | exact Or.inr rfl))) (fun _ _ _ _ _ => pts_nil) (fun _ _ _ _ _ => (pe_call (ok_l_draw T) (hr.mono (by decide)) (by rfl) T.g_l_draw (kp_l_draw T) (b_l_draw T) .nil pass0 (pa_cons (pv 0) (pa_cons (pe_op op_add (pv 6) pe_int) pa_nil)))))
    (pss_cons (ps_if (pt_cmpR op_eq (pe_call (ok_l_draw T) (hr.mono (by decide)) (by rfl) T.g_l_draw (kp_l_draw T) (b_l_draw T) .nil pass0 (pa_cons (pv 0) (pa_cons pe_int pa_nil))) pe_int (nomark _)) (pss_one (ps_set (i := 7) sc_l_drawn.nd rfl (by first | exact Or.inl rfl | exact Or.inr rfl) (pe_op op_rep (pe_slice sl_list (pv 7) po_none (po_some pe_int)) (pe_callB call_len_seq (by rfl) T.n_len (by decide +kernel) (pa_cons (pv 7) pa_nil)))))
    pss_nil)
    (pss_cons (ps_if (pt_cmpR op_gt (pe_call (ok_l_draw T) (hr.mono (by decide)) (by rfl) T.g_l_draw (kp_l_draw T) (b_l_draw T) .nil pass0 (pa_cons (pv 0) (pa_cons pe_int pa_nil))) pe_int (nomark _)) (pss_one (ps_set (i := 7) sc_l_drawn.nd rfl (by first | exact Or.inl rfl | exact Or.inr rfl) (pe_call (ok_l_poured T) (hr.mono (by decide)) (by rfl) T.g_l_poured (kp_l_poured T) (b_l_poured T) .nil pass0 (pa_cons (pv 3) (pa_cons (pv 5) (pa_cons (pv 7) pa_nil))))))
    pss_nil)
    (pss_one (ps_ret (pe_tup (pa_cons (pv 3) (pa_cons (pv 5) (pa_cons (pv 7) pa_nil))))))))))))
theorem kp_law (T : Tx K mg) : PySem.W.keepIn K (.ref (ga K "law")) = true := T.F_law.kp
theorem b_law (T : Tx K mg) : Binds K T.fd_law ["_law_script"] [] := T.F_law.bindsN fun _ _ _ _ _ _ us hl => match us, hl with | [_], _ => rfl
theorem sc_law : FnScope n_law ["_law_script"] (defScope s_law) := ⟨rfl, rfl, rfl, by decide +kernel, rfl, by decide +kernel, by decide +kernel⟩
theorem ok_law (T : Tx K mg) : FnOkG P w K mg base CX0 10 (ga K "law") T.fd_law ["_law_script"] (sp_law K) := by
  refine okG T.F_law sc_law (fun _ _ _ _ h => h.1) (fun cdv A outer s H vs Q E hr hG h => ⟨t_law K, PSs.nox ?_, h.2⟩)
  exact (pss_cons (ps_set (i := 1) sc_law.nd rfl (by first | exact Or.inl rfl | exact Or.inr rfl) (pe_call (ok_l_pen T) (hr.mono (by decide)) (by rfl) T.g_l_pen (kp_l_pen T) (b_l_pen T) .nil pass0 (pa_cons (pv 0) pa_nil)))
    (pss_cons (ps_for PassesOwn.never rfl (pi_range1 rfl T.n_range (pa_cons (pe_op op_add pe_int (pe_callB (call_min2 rfl) (by rfl) T.n_min (by decide +kernel) (pa_cons pe_int (pa_cons (pe_callB call_len_seq (by rfl) T.n_len (by decide +kernel) (pa_cons (pv 0) pa_nil)) pa_nil)))) pa_nil)) (pg_name (i := 2) sc_law.nd rfl (by first | exact Or.inl rfl | exact Or.inr rfl))
    (pss_cons (ps_asg (pe_call (ok_l_drawn T) (hr.mono (by decide)) (by rfl) T.g_l_drawn (kp_l_drawn T) (b_l_drawn T) .nil pass0 (pa_cons (pv 1) (pa_cons pe_int (pa_cons (pe_ifExp (pt_cmpR op_eq (pv 2) pe_int (nomark _)) pe_int pe_int) pa_nil)))) (pg_tup rfl (pgs_cons (pg_name (i := 3) sc_law.nd rfl (by first | exact Or.inl rfl | exact Or.inr rfl)) (pgs_cons (pg_name (i := 4) sc_law.nd rfl (by first | exact Or.inl rfl | exact Or.inr rfl)) (pgs_cons (pg_name (i := 5) sc_law.nd rfl (by first | exact Or.inl rfl | exact Or.inr rfl)) pgs_nil)))))
    (pss_cons (ps_if (pt_not (pt_val (pe_callG hG (ok_l_stretch_right T) (hr.mono (by decide)) (by rfl) T.g_l_stretch_right (kp_l_stretch_right T) (b_l_stretch_right T) .nil pass0 (pa_cons (pv 3) (pa_cons (pv 4) (pa_cons (pv 5) pa_nil)))))) (pss_one (ps_ret pe_bl))
    pss_nil)
    (pss_cons (ps_asg (pe_tup (pa_cons (pe_cmpR op_notN (pe_call (ok_stretch_plan T) (hr.mono (by decide)) (by rfl) T.g_stretch_plan (kp_stretch_plan T) (b_stretch_plan T) .nil pass0 (pa_cons (pv 3) (pa_cons (pv 4) (pa_cons (pv 5) pa_nil)))) pe_non (nomark _)) (pa_cons (pe_op op_add pe_int (pe_call (ok_l_great T) (hr.mono (by decide)) (by rfl) T.g_l_great (kp_l_great T) (b_l_great T) .nil pass0 (pa_cons (pv 1) (pa_cons pe_int pa_nil)))) pa_nil))) (pg_tup rfl (pgs_cons (pg_name (i := 6) sc_law.nd rfl (by first | exact Or.inl rfl | exact Or.inr rfl)) (pgs_cons (pg_name (i := 7) sc_law.nd rfl (by first | exact Or.inl rfl | exact Or.inr rfl)) pgs_nil))))
    (pss_cons (ps_set (i := 8) sc_law.nd rfl (by first | exact Or.inl rfl | exact Or.inr rfl) (pe_call (ok_stretch_plan T) (hr.mono (by decide)) (by rfl) T.g_stretch_plan (kp_stretch_plan T) (b_stretch_plan T) .nil pass0 (pa_cons (pv 3) (pa_cons (pe_call (ok_l_shuffled T) (hr.mono (by decide)) (by rfl) T.g_l_shuffled (kp_l_shuffled T) (b_l_shuffled T) .nil pass0 (pa_cons (pv 1) (pa_cons (pv 4) pa_nil))) (pa_cons (pe_call (ok_l_shuffled T) (hr.mono (by decide)) (by rfl) T.g_l_shuffled (kp_l_shuffled T) (b_l_shuffled T) .nil pass0 (pa_cons (pv 1) (pa_cons (pe_op op_cat (pv 5) (pe_lst (pa_cons pe_int pa_nil))) pa_nil))) pa_nil)))))
    (pss_cons (ps_if (pt_cmpR op_ne (pe_cmpR op_notN (pv 8) pe_non (nomark _)) (pv 6) (nomark _)) (pss_one (ps_ret pe_bl))
    pss_nil)
    (pss_cons (ps_setLc (i := 9) (own := [("_law_amount", 12)]) (g := (gName 12)) (tt := tYes) rfl sc_law.nd rfl rfl (sw_true rfl rfl rfl (by decide +kernel)) (pi_list (pv 5)) (blkOk_by (own := [("_law_amount", 12)]) (N := n_law) (sc := (defScope s_law)) (by decide +kernel)) (fun _ _ _ _ _ => (pg_name (i := 12) sc_law.nd rfl (by first | exact Or.inl rfl | exact Or.inr rfl))) (fun _ _ _ _ _ => pts_nil) (fun _ _ _ _ _ => (pe_op op_mulW (pv 12) (pv 7))))
    (pss_cons (ps_set (i := 10) sc_law.nd rfl (by first | exact Or.inl rfl | exact Or.inr rfl) (pe_call (ok_stretch_plan T) (hr.mono (by decide)) (by rfl) T.g_stretch_plan (kp_stretch_plan T) (b_stretch_plan T) .nil pass0 (pa_cons (pv 3) (pa_cons (pe_lc (own := [("_law_speed", 13)]) (g := (gName 13)) (tt := tYes) rfl sc_law.nd (pi_list (pv 4)) (blkOk_by (own := [("_law_speed", 13)]) (N := n_law) (sc := (defScope s_law)) (by decide +kernel)) (fun _ _ _ _ _ => (pg_name (i := 13) sc_law.nd rfl (by first | exact Or.inl rfl | exact Or.inr rfl))) (fun _ _ _ _ _ => pts_nil) (fun _ _ _ _ _ => (pe_op op_mulW (pv 13) (pv 7)))) (pa_cons (pv 9) pa_nil)))))
    (pss_cons (ps_set (i := 11) sc_law.nd rfl (by first | exact Or.inl rfl | exact Or.inr rfl) (pe_call (ok_stretch_plan T) (hr.mono (by decide)) (by rfl) T.g_stretch_plan (kp_stretch_plan T) (b_stretch_plan T) .nil pass0 (pa_cons (pe_op op_mulW (pv 3) (pv 7)) (pa_cons (pv 4) (pa_cons (pv 9) pa_nil)))))
    (pss_cons (ps_if (PW.pt (pw_or (pt_cmpR op_ne (pe_cmpR op_notN (pv 10) pe_non (nomark _)) (pv 6) (nomark _)) (pw_or1 (pt_cmpR op_ne (pe_cmpR op_notN (pv 11) pe_non (nomark _)) (pv 6) (nomark _))))) (pss_one (ps_ret pe_bl))
    pss_nil)
    (pss_cons (ps_if (PW.pt (pw_and (pt_val (pv 6)) (pw_and1 (pt_not (pt_val (pe_call (ok_l_does_stretch T) (hr.mono (by decide)) (by rfl) T.g_l_does_stretch (kp_l_does_stretch T) (b_l_does_stretch T) .nil pass0 (pa_cons (pe_op op_mulW (pv 3) (pv 7)) (pa_cons (pv 4) (pa_cons (pv 9) (pa_cons (pv 11) pa_nil)))))))))) (pss_one (ps_ret pe_bl))
    pss_nil)
    (pss_cons (ps_if (PW.pt (pw_and (pt_val (pv 6)) (pw_and1 (pt_cmpR op_isN (pe_call (ok_stretch_plan T) (hr.mono (by decide)) (by rfl) T.g_stretch_plan (kp_stretch_plan T) (b_stretch_plan T) .nil pass0 (pa_cons (pv 3) (pa_cons (pv 4) (pa_cons (pe_slice sl_list (pv 5) (po_some pe_int) po_none) pa_nil)))) pe_non (nomark _))))) (pss_one (ps_ret pe_bl))
    pss_nil)
    (pss_one (ps_if (pt_cmpR op_notN (pe_call (ok_stretch_plan T) (hr.mono (by decide)) (by rfl) T.g_stretch_plan (kp_stretch_plan T) (b_stretch_plan T) .nil pass0 (pa_cons (pv 3) (pa_cons (pv 4) (pa_cons (pe_op op_cat (pv 5) (pe_lst (pa_cons (pe_op op_add (pe_op op_mulW (pv 3) (pe_callB (cr_sum rfl) (by rfl) T.n_sum (by decide +kernel) (pa_cons (pv 4) pa_nil))) pe_int) pa_nil))) pa_nil)))) pe_non (nomark _)) (pss_one (ps_ret pe_bl))
    pss_nil))))))))))))))
    (pss_one (ps_ret pe_bl))))
end
end My

namespace My
open PySem PySem.Spec PyProof.Rows L2
open He (ga ma)
/-! ### the head: facts by names, the run of the top -/
def d_common_divisor : He.DefD := ⟨("common_divisor", none), "common_divisor", "common_divisor", defArgs s_common_divisor, defBody s_common_divisor, defScope s_common_divisor, [], []⟩
def d_fraction : He.DefD := ⟨("fraction", none), "fraction", "fraction", defArgs s_fraction, defBody s_fraction, defScope s_fraction, [], []⟩
def d_is_less : He.DefD := ⟨("is_less", none), "is_less", "is_less", defArgs s_is_less, defBody s_is_less, defScope s_is_less, [], []⟩
def d_plus : He.DefD := ⟨("plus", none), "plus", "plus", defArgs s_plus, defBody s_plus, defScope s_plus, [], []⟩
def d_minus : He.DefD := ⟨("minus", none), "minus", "minus", defArgs s_minus, defBody s_minus, defScope s_minus, [], []⟩
def d_times : He.DefD := ⟨("times", none), "times", "times", defArgs s_times, defBody s_times, defScope s_times, [], []⟩
def d_divided : He.DefD := ⟨("divided", none), "divided", "divided", defArgs s_divided, defBody s_divided, defScope s_divided, [], []⟩
def d_Segment_init : He.DefD := ⟨("Segment", some "__init__"), "__init__", "Segment.__init__", defArgs s_Segment_init, defBody s_Segment_init, defScope s_Segment_init, [], []⟩
def d_Segment_content : He.DefD := ⟨("Segment", some "content"), "content", "Segment.content", defArgs s_Segment_content, defBody s_Segment_content, defScope s_Segment_content, [], []⟩
def d_Segment_between : He.DefD := ⟨("Segment", some "between"), "between", "Segment.between", defArgs s_Segment_between, defBody s_Segment_between, defScope s_Segment_between, [], []⟩
def d_capacity_of : He.DefD := ⟨("capacity_of", none), "capacity_of", "capacity_of", defArgs s_capacity_of, defBody s_capacity_of, defScope s_capacity_of, [], []⟩
def d_lane_between : He.DefD := ⟨("lane_between", none), "lane_between", "lane_between", defArgs s_lane_between, defBody s_lane_between, defScope s_lane_between, [], []⟩
def d_joined : He.DefD := ⟨("joined", none), "joined", "joined", defArgs s_joined, defBody s_joined, defScope s_joined, [], []⟩
def d_moments_of : He.DefD := ⟨("moments_of", none), "moments_of", "moments_of", defArgs s_moments_of, defBody s_moments_of, defScope s_moments_of, [], []⟩
def d_rate_at : He.DefD := ⟨("rate_at", none), "rate_at", "rate_at", defArgs s_rate_at, defBody s_rate_at, defScope s_rate_at, [], []⟩
def d_switch_moment : He.DefD := ⟨("switch_moment", none), "switch_moment", "switch_moment", defArgs s_switch_moment, defBody s_switch_moment, defScope s_switch_moment, [], []⟩
def d_slowest_lane : He.DefD := ⟨("slowest_lane", none), "slowest_lane", "slowest_lane", defArgs s_slowest_lane, defBody s_slowest_lane, defScope s_slowest_lane, [], []⟩
def d_descending : He.DefD := ⟨("descending", none), "descending", "descending", defArgs s_descending, defBody s_descending, defScope s_descending, [], []⟩
def d_cut_stretch : He.DefD := ⟨("cut_stretch", none), "cut_stretch", "cut_stretch", defArgs s_cut_stretch, defBody s_cut_stretch, defScope s_cut_stretch, [], []⟩
def d_stretch_plan : He.DefD := ⟨("stretch_plan", none), "stretch_plan", "stretch_plan", defArgs s_stretch_plan, defBody s_stretch_plan, defScope s_stretch_plan, [], []⟩
def d_l_pen : He.DefD := ⟨("_law_pen", none), "_law_pen", "_law_pen", defArgs s_l_pen, defBody s_l_pen, defScope s_l_pen, [], []⟩
def d_l_draw : He.DefD := ⟨("_law_draw", none), "_law_draw", "_law_draw", defArgs s_l_draw, defBody s_l_draw, defScope s_l_draw, [], []⟩
def d_l_pick : He.DefD := ⟨("_law_pick", none), "_law_pick", "_law_pick", defArgs s_l_pick, defBody s_l_pick, defScope s_l_pick, [], []⟩
def d_l_shuffled : He.DefD := ⟨("_law_shuffled", none), "_law_shuffled", "_law_shuffled", defArgs s_l_shuffled, defBody s_l_shuffled, defScope s_l_shuffled, [], []⟩
def d_l_gcd : He.DefD := ⟨("_law_gcd", none), "_law_gcd", "_law_gcd", defArgs s_l_gcd, defBody s_l_gcd, defScope s_l_gcd, [], []⟩
def d_l_fraction : He.DefD := ⟨("_law_fraction", none), "_law_fraction", "_law_fraction", defArgs s_l_fraction, defBody s_l_fraction, defScope s_l_fraction, [], []⟩
def d_l_less : He.DefD := ⟨("_law_less", none), "_law_less", "_law_less", defArgs s_l_less, defBody s_l_less, defScope s_l_less, [], []⟩
def d_l_plus : He.DefD := ⟨("_law_plus", none), "_law_plus", "_law_plus", defArgs s_l_plus, defBody s_l_plus, defScope s_l_plus, [], []⟩
def d_l_minus : He.DefD := ⟨("_law_minus", none), "_law_minus", "_law_minus", defArgs s_l_minus, defBody s_l_minus, defScope s_l_minus, [], []⟩
def d_l_times : He.DefD := ⟨("_law_times", none), "_law_times", "_law_times", defArgs s_l_times, defBody s_l_times, defScope s_l_times, [], []⟩
def d_l_is_int : He.DefD := ⟨("_law_is_int", none), "_law_is_int", "_law_is_int", defArgs s_l_is_int, defBody s_l_is_int, defScope s_l_is_int, [], []⟩
def d_l_is_fraction : He.DefD := ⟨("_law_is_fraction", none), "_law_is_fraction", "_law_is_fraction", defArgs s_l_is_fraction, defBody s_l_is_fraction, defScope s_l_is_fraction, [], []⟩
def d_l_overlap : He.DefD := ⟨("_law_overlap", none), "_law_overlap", "_law_overlap", defArgs s_l_overlap, defBody s_l_overlap, defScope s_l_overlap, [], []⟩
def d_l_can : He.DefD := ⟨("_law_can", none), "_law_can", "_law_can", defArgs s_l_can, defBody s_l_can, defScope s_l_can, [], []⟩
def d_l_poured : He.DefD := ⟨("_law_poured", none), "_law_poured", "_law_poured", defArgs s_l_poured, defBody s_l_poured, defScope s_l_poured, [], []⟩
def d_l_is_in_stretch : He.DefD := ⟨("_law_is_in_stretch", none), "_law_is_in_stretch", "_law_is_in_stretch", defArgs s_l_is_in_stretch, defBody s_l_is_in_stretch, defScope s_l_is_in_stretch, [], []⟩
def d_l_does_stretch : He.DefD := ⟨("_law_does_stretch", none), "_law_does_stretch", "_law_does_stretch", defArgs s_l_does_stretch, defBody s_l_does_stretch, defScope s_l_does_stretch, [], []⟩
def d_l_stretch_right : He.DefD := ⟨("_law_stretch_right", none), "_law_stretch_right", "_law_stretch_right", defArgs s_l_stretch_right, defBody s_l_stretch_right, defScope s_l_stretch_right, [], []⟩
def d_l_great : He.DefD := ⟨("_law_great", none), "_law_great", "_law_great", defArgs s_l_great, defBody s_l_great, defScope s_l_great, [], []⟩
def d_l_drawn : He.DefD := ⟨("_law_drawn", none), "_law_drawn", "_law_drawn", defArgs s_l_drawn, defBody s_l_drawn, defScope s_l_drawn, [], []⟩
def d_law : He.DefD := ⟨("law", none), "law", "law", defArgs s_law, defBody s_law, defScope s_law, [], []⟩
def fn : List He.DefD := [d_common_divisor, d_fraction, d_is_less, d_plus, d_minus, d_times, d_divided, d_Segment_init, d_Segment_content, d_Segment_between, d_capacity_of, d_lane_between, d_joined, d_moments_of, d_rate_at, d_switch_moment, d_slowest_lane, d_descending, d_cut_stretch, d_stretch_plan, d_l_pen, d_l_draw, d_l_pick, d_l_shuffled, d_l_gcd, d_l_fraction, d_l_less, d_l_plus, d_l_minus, d_l_times, d_l_is_int, d_l_is_fraction, d_l_overlap, d_l_can, d_l_poured, d_l_is_in_stretch, d_l_does_stretch, d_l_stretch_right, d_l_great, d_l_drawn, d_law]
def fa : List He.Fa := [.glo "common_divisor", .glo "fraction", .glo "is_less", .glo "plus", .glo "minus", .glo "times", .glo "divided", .meth "Segment" "content", .meth "Segment" "between", .glo "capacity_of", .glo "lane_between", .glo "joined", .glo "moments_of", .glo "rate_at", .glo "switch_moment", .glo "slowest_lane", .glo "descending", .glo "cut_stretch", .glo "stretch_plan", .glo "_law_pen", .glo "_law_draw", .glo "_law_pick", .glo "_law_shuffled", .glo "_law_gcd", .glo "_law_fraction", .glo "_law_less", .glo "_law_plus", .glo "_law_minus", .glo "_law_times", .glo "_law_is_int", .glo "_law_is_fraction", .glo "_law_overlap", .glo "_law_can", .glo "_law_poured", .glo "_law_is_in_stretch", .glo "_law_does_stretch", .glo "_law_stretch_right", .glo "_law_great", .glo "_law_drawn", .glo "law", .free "abs", .free "bool", .free "enumerate", .free "int", .free "isinstance", .free "len", .free "list", .free "max", .free "min", .free "range", .free "repr", .free "sorted", .free "sum", .free "tuple", .free "zip", .glo "Segment", .glo "ZERO", .cls "Segment", .mkr "Segment", .noat "Segment" "closing", .noat "Segment" "opening", .noat "Segment" "owner", .noat "Segment" "rate"]
def exB (K : PySem.W.Frag) : Bool := He.tupB K "ZERO" [.int 0, .int 1]
abbrev R : PySem.W.OpenRow := PySem.W.OpenLaw.row PySem.Challenge.rw_cutworks_k52_whole_stretches_of_any_size
def loose : List Str := (["common_divisor", "fraction", "is_less", "plus", "minus", "times", "ZERO", "divided", "Segment", "capacity_of", "lane_between", "joined", "moments_of", "rate_at", "switch_moment", "slowest_lane", "descending", "cut_stretch", "stretch_plan", "_law_pen", "_law_draw", "_law_pick", "_law_shuffled", "_law_gcd", "_law_fraction", "_law_less", "_law_plus", "_law_minus", "_law_times", "_law_is_int"] : List Str) ++ (["_law_is_fraction", "_law_overlap", "_law_can", "_law_poured", "_law_is_in_stretch", "_law_does_stretch", "_law_stretch_right", "_law_great", "_law_drawn"] : List Str)
abbrev hk : PySem.W.Hook := He.hookX 4 fa fn [] [] exB
def ob (s : PySem.W.SharedT) : He.AlX := He.obsX 4 fa fn [] [] exB (HandSHeadRun.getT s)
theorem ob_eq (s : PySem.W.SharedT) : ob s = hk.obs s.abs := He.obsX_eq (HandSHeadRun.getT_eq s)
theorem run (w : World) : HandSHeadRun.RunEq R (PySem.W.view R.prog [42]) hk ob 2000 loose w := by
  intro os
  kernel_rfl
theorem tx_of {w : World} {K : PySem.W.Frag} {h : Heap} {mg : Str → Option Value} (X : K.In h) (G : h.Ns mainGlobals mg) (c : He.SaysX fa fn [] [] exB w h K) : Nonempty (Tx K mg) := by
  have cd := c.t.d
  obtain ⟨fd_common_divisor, F_common_divisor⟩ := cd.def_ 0 (d := d_common_divisor) rfl
  obtain ⟨fd_fraction, F_fraction⟩ := cd.def_ 1 (d := d_fraction) rfl
  obtain ⟨fd_is_less, F_is_less⟩ := cd.def_ 2 (d := d_is_less) rfl
  obtain ⟨fd_plus, F_plus⟩ := cd.def_ 3 (d := d_plus) rfl
  obtain ⟨fd_minus, F_minus⟩ := cd.def_ 4 (d := d_minus) rfl
  obtain ⟨fd_times, F_times⟩ := cd.def_ 5 (d := d_times) rfl
  obtain ⟨fd_divided, F_divided⟩ := cd.def_ 6 (d := d_divided) rfl
  obtain ⟨fd_Segment_init, F_Segment_init⟩ := cd.def_ 7 (d := d_Segment_init) rfl
  obtain ⟨fd_Segment_content, F_Segment_content⟩ := cd.def_ 8 (d := d_Segment_content) rfl
  obtain ⟨fd_Segment_between, F_Segment_between⟩ := cd.def_ 9 (d := d_Segment_between) rfl
  obtain ⟨fd_capacity_of, F_capacity_of⟩ := cd.def_ 10 (d := d_capacity_of) rfl
  obtain ⟨fd_lane_between, F_lane_between⟩ := cd.def_ 11 (d := d_lane_between) rfl
  obtain ⟨fd_joined, F_joined⟩ := cd.def_ 12 (d := d_joined) rfl
  obtain ⟨fd_moments_of, F_moments_of⟩ := cd.def_ 13 (d := d_moments_of) rfl
  obtain ⟨fd_rate_at, F_rate_at⟩ := cd.def_ 14 (d := d_rate_at) rfl
  obtain ⟨fd_switch_moment, F_switch_moment⟩ := cd.def_ 15 (d := d_switch_moment) rfl
  obtain ⟨fd_slowest_lane, F_slowest_lane⟩ := cd.def_ 16 (d := d_slowest_lane) rfl
  obtain ⟨fd_descending, F_descending⟩ := cd.def_ 17 (d := d_descending) rfl
  obtain ⟨fd_cut_stretch, F_cut_stretch⟩ := cd.def_ 18 (d := d_cut_stretch) rfl
  obtain ⟨fd_stretch_plan, F_stretch_plan⟩ := cd.def_ 19 (d := d_stretch_plan) rfl
  obtain ⟨fd_l_pen, F_l_pen⟩ := cd.def_ 20 (d := d_l_pen) rfl
  obtain ⟨fd_l_draw, F_l_draw⟩ := cd.def_ 21 (d := d_l_draw) rfl
  obtain ⟨fd_l_pick, F_l_pick⟩ := cd.def_ 22 (d := d_l_pick) rfl
  obtain ⟨fd_l_shuffled, F_l_shuffled⟩ := cd.def_ 23 (d := d_l_shuffled) rfl
  obtain ⟨fd_l_gcd, F_l_gcd⟩ := cd.def_ 24 (d := d_l_gcd) rfl
  obtain ⟨fd_l_fraction, F_l_fraction⟩ := cd.def_ 25 (d := d_l_fraction) rfl
  obtain ⟨fd_l_less, F_l_less⟩ := cd.def_ 26 (d := d_l_less) rfl
  obtain ⟨fd_l_plus, F_l_plus⟩ := cd.def_ 27 (d := d_l_plus) rfl
  obtain ⟨fd_l_minus, F_l_minus⟩ := cd.def_ 28 (d := d_l_minus) rfl
  obtain ⟨fd_l_times, F_l_times⟩ := cd.def_ 29 (d := d_l_times) rfl
  obtain ⟨fd_l_is_int, F_l_is_int⟩ := cd.def_ 30 (d := d_l_is_int) rfl
  obtain ⟨fd_l_is_fraction, F_l_is_fraction⟩ := cd.def_ 31 (d := d_l_is_fraction) rfl
  obtain ⟨fd_l_overlap, F_l_overlap⟩ := cd.def_ 32 (d := d_l_overlap) rfl
  obtain ⟨fd_l_can, F_l_can⟩ := cd.def_ 33 (d := d_l_can) rfl
  obtain ⟨fd_l_poured, F_l_poured⟩ := cd.def_ 34 (d := d_l_poured) rfl
  obtain ⟨fd_l_is_in_stretch, F_l_is_in_stretch⟩ := cd.def_ 35 (d := d_l_is_in_stretch) rfl
  obtain ⟨fd_l_does_stretch, F_l_does_stretch⟩ := cd.def_ 36 (d := d_l_does_stretch) rfl
  obtain ⟨fd_l_stretch_right, F_l_stretch_right⟩ := cd.def_ 37 (d := d_l_stretch_right) rfl
  obtain ⟨fd_l_great, F_l_great⟩ := cd.def_ 38 (d := d_l_great) rfl
  obtain ⟨fd_l_drawn, F_l_drawn⟩ := cd.def_ 39 (d := d_l_drawn) rfl
  obtain ⟨fd_law, F_law⟩ := cd.def_ 40 (d := d_law) rfl
  exact ⟨{ fd_common_divisor := fd_common_divisor, F_common_divisor := F_common_divisor, g_common_divisor := He.glo_ok X G (cd.fact 0 (f := .glo "common_divisor") rfl), fd_fraction := fd_fraction, F_fraction := F_fraction, g_fraction := He.glo_ok X G (cd.fact 1 (f := .glo "fraction") rfl), fd_is_less := fd_is_less, F_is_less := F_is_less, g_is_less := He.glo_ok X G (cd.fact 2 (f := .glo "is_less") rfl), fd_plus := fd_plus, F_plus := F_plus, g_plus := He.glo_ok X G (cd.fact 3 (f := .glo "plus") rfl), fd_minus := fd_minus, F_minus := F_minus, g_minus := He.glo_ok X G (cd.fact 4 (f := .glo "minus") rfl), fd_times := fd_times, F_times := F_times, g_times := He.glo_ok X G (cd.fact 5 (f := .glo "times") rfl), fd_divided := fd_divided, F_divided := F_divided, g_divided := He.glo_ok X G (cd.fact 6 (f := .glo "divided") rfl), fd_Segment_init := fd_Segment_init, F_Segment_init := F_Segment_init, fd_Segment_content := fd_Segment_content, F_Segment_content := F_Segment_content, me_Segment_content := He.meth_ok (cd.fact 7 (f := .meth "Segment" "content") rfl), fd_Segment_between := fd_Segment_between, F_Segment_between := F_Segment_between, me_Segment_between := He.meth_ok (cd.fact 8 (f := .meth "Segment" "between") rfl), fd_capacity_of := fd_capacity_of, F_capacity_of := F_capacity_of, g_capacity_of := He.glo_ok X G (cd.fact 9 (f := .glo "capacity_of") rfl), fd_lane_between := fd_lane_between, F_lane_between := F_lane_between, g_lane_between := He.glo_ok X G (cd.fact 10 (f := .glo "lane_between") rfl), fd_joined := fd_joined, F_joined := F_joined, g_joined := He.glo_ok X G (cd.fact 11 (f := .glo "joined") rfl), fd_moments_of := fd_moments_of, F_moments_of := F_moments_of, g_moments_of := He.glo_ok X G (cd.fact 12 (f := .glo "moments_of") rfl), fd_rate_at := fd_rate_at, F_rate_at := F_rate_at, g_rate_at := He.glo_ok X G (cd.fact 13 (f := .glo "rate_at") rfl), fd_switch_moment := fd_switch_moment, F_switch_moment := F_switch_moment, g_switch_moment := He.glo_ok X G (cd.fact 14 (f := .glo "switch_moment") rfl), fd_slowest_lane := fd_slowest_lane, F_slowest_lane := F_slowest_lane, g_slowest_lane := He.glo_ok X G (cd.fact 15 (f := .glo "slowest_lane") rfl), fd_descending := fd_descending, F_descending := F_descending, g_descending := He.glo_ok X G (cd.fact 16 (f := .glo "descending") rfl), fd_cut_stretch := fd_cut_stretch, F_cut_stretch := F_cut_stretch, g_cut_stretch := He.glo_ok X G (cd.fact 17 (f := .glo "cut_stretch") rfl), fd_stretch_plan := fd_stretch_plan, F_stretch_plan := F_stretch_plan, g_stretch_plan := He.glo_ok X G (cd.fact 18 (f := .glo "stretch_plan") rfl), fd_l_pen := fd_l_pen, F_l_pen := F_l_pen, g_l_pen := He.glo_ok X G (cd.fact 19 (f := .glo "_law_pen") rfl), fd_l_draw := fd_l_draw, F_l_draw := F_l_draw, g_l_draw := He.glo_ok X G (cd.fact 20 (f := .glo "_law_draw") rfl), fd_l_pick := fd_l_pick, F_l_pick := F_l_pick, g_l_pick := He.glo_ok X G (cd.fact 21 (f := .glo "_law_pick") rfl), fd_l_shuffled := fd_l_shuffled, F_l_shuffled := F_l_shuffled, g_l_shuffled := He.glo_ok X G (cd.fact 22 (f := .glo "_law_shuffled") rfl), fd_l_gcd := fd_l_gcd, F_l_gcd := F_l_gcd, g_l_gcd := He.glo_ok X G (cd.fact 23 (f := .glo "_law_gcd") rfl), fd_l_fraction := fd_l_fraction, F_l_fraction := F_l_fraction, g_l_fraction := He.glo_ok X G (cd.fact 24 (f := .glo "_law_fraction") rfl), fd_l_less := fd_l_less, F_l_less := F_l_less, g_l_less := He.glo_ok X G (cd.fact 25 (f := .glo "_law_less") rfl), fd_l_plus := fd_l_plus, F_l_plus := F_l_plus, g_l_plus := He.glo_ok X G (cd.fact 26 (f := .glo "_law_plus") rfl), fd_l_minus := fd_l_minus, F_l_minus := F_l_minus, g_l_minus := He.glo_ok X G (cd.fact 27 (f := .glo "_law_minus") rfl), fd_l_times := fd_l_times, F_l_times := F_l_times, g_l_times := He.glo_ok X G (cd.fact 28 (f := .glo "_law_times") rfl), fd_l_is_int := fd_l_is_int, F_l_is_int := F_l_is_int, g_l_is_int := He.glo_ok X G (cd.fact 29 (f := .glo "_law_is_int") rfl), fd_l_is_fraction := fd_l_is_fraction, F_l_is_fraction := F_l_is_fraction, g_l_is_fraction := He.glo_ok X G (cd.fact 30 (f := .glo "_law_is_fraction") rfl), fd_l_overlap := fd_l_overlap, F_l_overlap := F_l_overlap, g_l_overlap := He.glo_ok X G (cd.fact 31 (f := .glo "_law_overlap") rfl), fd_l_can := fd_l_can, F_l_can := F_l_can, g_l_can := He.glo_ok X G (cd.fact 32 (f := .glo "_law_can") rfl), fd_l_poured := fd_l_poured, F_l_poured := F_l_poured, g_l_poured := He.glo_ok X G (cd.fact 33 (f := .glo "_law_poured") rfl), fd_l_is_in_stretch := fd_l_is_in_stretch, F_l_is_in_stretch := F_l_is_in_stretch, g_l_is_in_stretch := He.glo_ok X G (cd.fact 34 (f := .glo "_law_is_in_stretch") rfl), fd_l_does_stretch := fd_l_does_stretch, F_l_does_stretch := F_l_does_stretch, g_l_does_stretch := He.glo_ok X G (cd.fact 35 (f := .glo "_law_does_stretch") rfl), fd_l_stretch_right := fd_l_stretch_right, F_l_stretch_right := F_l_stretch_right, g_l_stretch_right := He.glo_ok X G (cd.fact 36 (f := .glo "_law_stretch_right") rfl), fd_l_great := fd_l_great, F_l_great := F_l_great, g_l_great := He.glo_ok X G (cd.fact 37 (f := .glo "_law_great") rfl), fd_l_drawn := fd_l_drawn, F_l_drawn := F_l_drawn, g_l_drawn := He.glo_ok X G (cd.fact 38 (f := .glo "_law_drawn") rfl), fd_law := fd_law, F_law := F_law, g_law := He.glo_ok X G (cd.fact 39 (f := .glo "law") rfl), n_abs := He.free_ok X G (cd.fact 40 (f := .free "abs") rfl), n_bool := He.free_ok X G (cd.fact 41 (f := .free "bool") rfl), n_enumerate := He.free_ok X G (cd.fact 42 (f := .free "enumerate") rfl), n_int := He.free_ok X G (cd.fact 43 (f := .free "int") rfl), n_isinstance := He.free_ok X G (cd.fact 44 (f := .free "isinstance") rfl), n_len := He.free_ok X G (cd.fact 45 (f := .free "len") rfl), n_list := He.free_ok X G (cd.fact 46 (f := .free "list") rfl), n_max := He.free_ok X G (cd.fact 47 (f := .free "max") rfl), n_min := He.free_ok X G (cd.fact 48 (f := .free "min") rfl), n_range := He.free_ok X G (cd.fact 49 (f := .free "range") rfl), n_repr := He.free_ok X G (cd.fact 50 (f := .free "repr") rfl), n_sorted := He.free_ok X G (cd.fact 51 (f := .free "sorted") rfl), n_sum := He.free_ok X G (cd.fact 52 (f := .free "sum") rfl), n_tuple := He.free_ok X G (cd.fact 53 (f := .free "tuple") rfl), n_zip := He.free_ok X G (cd.fact 54 (f := .free "zip") rfl), g_Segment := He.glo_ok X G (cd.fact 55 (f := .glo "Segment") rfl), g_ZERO := He.glo_ok X G (cd.fact 56 (f := .glo "ZERO") rfl), c_Segment := He.cls_ok (cd.fact 57 (f := .cls "Segment") rfl), m_Segment := He.mkr_ok (cd.fact 58 (f := .mkr "Segment") rfl) }⟩
theorem na_closing {w : World} {K : PySem.W.Frag} {h : Heap} (c : He.SaysX fa fn [] [] exB w h K) : NoAttr K (ga K "Segment") "closing" := He.noat_ok (c.t.d.fact 59 (f := .noat "Segment" "closing") rfl)
theorem na_opening {w : World} {K : PySem.W.Frag} {h : Heap} (c : He.SaysX fa fn [] [] exB w h K) : NoAttr K (ga K "Segment") "opening" := He.noat_ok (c.t.d.fact 60 (f := .noat "Segment" "opening") rfl)
theorem na_owner {w : World} {K : PySem.W.Frag} {h : Heap} (c : He.SaysX fa fn [] [] exB w h K) : NoAttr K (ga K "Segment") "owner" := He.noat_ok (c.t.d.fact 61 (f := .noat "Segment" "owner") rfl)
theorem na_rate {w : World} {K : PySem.W.Frag} {h : Heap} (c : He.SaysX fa fn [] [] exB w h K) : NoAttr K (ga K "Segment") "rate" := He.noat_ok (c.t.d.fact 62 (f := .noat "Segment" "rate") rfl)
end My

/-! What the defs on fractions hand back. -/
namespace My
open PySem PySem.Spec PyProof.Rows L2
open He (ga ma)
section
variable {K : PySem.W.Frag}
/-- small enough for products, quotients -/
def Sm (q : Rat) : Prop := q.num.natAbs < 2 ^ 4000 ∧ q.den < 2 ^ 4000
theorem wmul {i j : Int} {a b : Nat} (ha : i.natAbs < 2 ^ (a + 1)) (hb : j.natAbs < 2 ^ (b + 1)) (h : a + b ≤ 900000) : CMulW i j := wide_mul ha hb (Nat.succ_pos _) (Nat.succ_pos _) (by omega)
theorem spec_gcd (a b : Nat) : Spec2 (sp_common_divisor K) tInt tInt tInt (a : Int) (b : Int) (Nat.gcd a b : Nat) := by
  intro G H v w Q E s r1 r2 k
  cases r1
  cases r2
  refine ⟨rfl, q_while (fun m σ G' H' => ∃ c d : Nat, σ = [some (.int c), some (.int d)] ∧ Nat.gcd c d = Nat.gcd a b ∧ d = m ∧ Grow NoM G H G' H') b ⟨a, b, rfl, rfl, rfl, Grow.refl s⟩ ?_⟩
  rintro m σ G1 H1 ⟨c, d, rfl, hg, rfl, g⟩
  refine ⟨g.s, _, eb_test (ev_gt (ev_var rfl rfl) ev_int), fun h G2 H2 g2 => ?_, fun h G2 H2 g2 => ?_⟩
  · have hd : (0 : Int) < (d : Int) := of_decide_eq_true h
    refine s_par (M := NoM) (ev_var (T := tInt) (x := (d : Int)) rfl rfl) (ev_mod (i := (c : Int)) (j := (d : Int)) hd (ev_var rfl rfl) (ev_var rfl rfl)) g2.s fun v w G3 H3 g3 r3 r4 => ?_
    have e4 : w = V.int ((c % d : Nat) : Int) := by rw [show w = V.int ((c : Int) % (d : Int)) from r4, Int.natCast_emod]
    exact ⟨c % d, G3, Nat.mod_lt _ (by omega), d, c % d, by rw [show v = V.int (d : Int) from r3, e4]; rfl, by rw [Nat.gcd_comm d, ← hg, Nat.gcd_comm c d]; exact (Nat.gcd_rec d c).symm, rfl, (g.trans g2).trans g3⟩
  · have hd : d = 0 := by have := of_decide_eq_false h; omega
    subst hd
    rw [Nat.gcd_zero_right] at hg
    exact s_ret (M := NoM) (T := tInt) (x := ((Nat.gcd a b : Nat) : Int)) (ev_var rfl (by rw [← hg]; rfl)) g2.s fun v G3 H3 g3 r3 => k v G3 H3 ((g.trans g2).trans g3) r3

theorem den_bits {l : Nat} (h : l < 2 ^ 8001) (h0 : l ≠ 0) (u : Int) : CDivW u ((Nat.gcd u.natAbs l : Nat) : Int) := by
  have p : 0 < Nat.gcd u.natAbs l := Nat.gcd_pos_of_pos_right _ (Nat.pos_of_ne_zero h0)
  have q : Nat.gcd u.natAbs l ≤ l := Nat.gcd_le_right _ (Nat.pos_of_ne_zero h0)
  exact wide_div (b := 8001) (by omega) (by rw [Int.natAbs_natCast]; exact Nat.lt_of_le_of_lt q h) (by decide) (by decide)
theorem spec_fraction (u : Int) (l : Nat) (h0 : l ≠ 0) (h : l < 2 ^ 8001) : Spec2 (sp_fraction K) tInt tInt (tFr K) u (l : Int) (Rat.normalize u l h0) := by
  intro G H v w Q E s r1 r2 k
  cases r1
  cases r2
  have c := den_bits h h0 u
  have c2 : CDivW (l : Int) ((Nat.gcd u.natAbs l : Nat) : Int) := c
  refine ⟨rfl, q_asg (M := NoM) (ev_call2 (spec_gcd u.natAbs l) (ev_abs (ev_var rfl rfl)) (ev_var rfl rfl)) s fun x G1 H1 g1 r3 => ?_⟩
  refine s_ret (M := NoM) (ev_fr (K := K) (q := Rat.normalize u l h0) (ev_div c (ev_var rfl rfl) (ev_var rfl r3)) (ev_div c2 (ev_var rfl rfl) (ev_var rfl r3)) ?_ ?_) g1.s fun y G2 H2 g2 r4 => k y G2 H2 (g1.trans g2) r4
  · rw [Rat.normalize_eq]
  · rw [Rat.normalize_eq]
    exact Int.natCast_ediv _ _
theorem spec_less {a b : Rat} (ha : Sm a) (hb : Sm b) : Spec2 (sp_is_less K) (tFr K) (tFr K) tBool a b (decide (a < b)) := by
  intro G H v w Q E s r1 r2 k
  refine ⟨rfl, s_ret (M := NoM) ((ev_lt (ev_mul (wmul (a := 3999) (b := 3999) ha.1 (by rw [Int.natAbs_natCast]; exact hb.2) (by decide)) (ev_num (ev_var rfl r1)) (ev_den (ev_var rfl r2))) (ev_mul (wmul (a := 3999) (b := 3999) hb.1 (by rw [Int.natAbs_natCast]; exact ha.2) (by decide)) (ev_num (ev_var rfl r2)) (ev_den (ev_var rfl r1)))).is ?_) s fun y G2 H2 g2 r4 => k y G2 H2 g2 r4⟩
  exact decide_eq_decide.mpr (Rat.lt_iff a b).symm
theorem den_mul {a b : Rat} (ha : Sm a) (hb : Sm b) : a.den * b.den < 2 ^ 8001 := Nat.lt_of_lt_of_le (Nat.mul_lt_mul'' ha.2 hb.2) (by rw [← Nat.pow_add]; exact Nat.pow_le_pow_right (by decide) (by decide))
theorem den_mul0 (a b : Rat) : a.den * b.den ≠ 0 := Nat.mul_ne_zero a.den_nz b.den_nz
theorem sm_nd {a b : Rat} (ha : Sm a) (hb : Sm b) : CMulW a.num (b.den : Int) := wmul (a := 3999) (b := 3999) ha.1 (by rw [Int.natAbs_natCast]; exact hb.2) (by decide)
theorem sm_nn {a b : Rat} (ha : Sm a) (hb : Sm b) : CMulW a.num b.num := wmul (a := 3999) (b := 3999) ha.1 hb.1 (by decide)
theorem sm_dd {a b : Rat} (ha : Sm a) (hb : Sm b) : CMulW (a.den : Int) (b.den : Int) := wmul (a := 3999) (b := 3999) (by rw [Int.natAbs_natCast]; exact ha.2) (by rw [Int.natAbs_natCast]; exact hb.2) (by decide)
theorem spec_plus {a b : Rat} (ha : Sm a) (hb : Sm b) : Spec2 (sp_plus K) (tFr K) (tFr K) (tFr K) a b (a + b) := by
  intro G H v w Q E s r1 r2 k
  refine ⟨rfl, s_ret (M := NoM) ((ev_call2 (spec_fraction (a.num * b.den + b.num * a.den) (a.den * b.den) (den_mul0 a b) (den_mul ha hb))
    (ev_add (ev_mul (sm_nd ha hb) (ev_num (ev_var rfl r1)) (ev_den (ev_var rfl r2))) (ev_mul (sm_nd hb ha) (ev_num (ev_var rfl r2)) (ev_den (ev_var rfl r1))))
    ((ev_mul (sm_dd ha hb) (ev_den (ev_var rfl r1)) (ev_den (ev_var rfl r2))).is (Int.natCast_mul _ _).symm)).is (Rat.add_def a b).symm) s fun y G2 H2 g2 r4 => k y G2 H2 g2 r4⟩
theorem spec_minus {a b : Rat} (ha : Sm a) (hb : Sm b) : Spec2 (sp_minus K) (tFr K) (tFr K) (tFr K) a b (a - b) := by
  intro G H v w Q E s r1 r2 k
  refine ⟨rfl, s_ret (M := NoM) ((ev_call2 (spec_fraction (a.num * b.den - b.num * a.den) (a.den * b.den) (den_mul0 a b) (den_mul ha hb))
    (ev_sub (ev_mul (sm_nd ha hb) (ev_num (ev_var rfl r1)) (ev_den (ev_var rfl r2))) (ev_mul (sm_nd hb ha) (ev_num (ev_var rfl r2)) (ev_den (ev_var rfl r1))))
    ((ev_mul (sm_dd ha hb) (ev_den (ev_var rfl r1)) (ev_den (ev_var rfl r2))).is (Int.natCast_mul _ _).symm)).is (Rat.sub_def a b).symm) s fun y G2 H2 g2 r4 => k y G2 H2 g2 r4⟩
theorem spec_times {a b : Rat} (ha : Sm a) (hb : Sm b) : Spec2 (sp_times K) (tFr K) (tFr K) (tFr K) a b (a * b) := by
  intro G H v w Q E s r1 r2 k
  refine ⟨rfl, s_ret (M := NoM) ((ev_call2 (spec_fraction (a.num * b.num) (a.den * b.den) (den_mul0 a b) (den_mul ha hb))
    (ev_mul (sm_nn ha hb) (ev_num (ev_var rfl r1)) (ev_num (ev_var rfl r2)))
    ((ev_mul (sm_dd ha hb) (ev_den (ev_var rfl r1)) (ev_den (ev_var rfl r2))).is (Int.natCast_mul _ _).symm)).is (Rat.mul_def a b).symm) s fun y G2 H2 g2 r4 => k y G2 H2 g2 r4⟩
theorem spec_divided {a b : Rat} (ha : Sm a) (hb : Sm b) (h0 : 0 < b) : Spec2 (sp_divided K) (tFr K) (tFr K) (tFr K) a b (a / b) := by
  intro G H v w Q E s r1 r2 k
  have hn : 0 < b.num := (by simpa using (Rat.lt_iff 0 b).mp h0)
  have hn2 : (b.num.natAbs : Int) = b.num := by omega
  have hz : a.den * b.num.natAbs ≠ 0 := Nat.mul_ne_zero a.den_nz (by omega)
  have hd : a.den * b.num.natAbs < 2 ^ 8001 := Nat.lt_of_lt_of_le (Nat.mul_lt_mul'' ha.2 hb.1) (by rw [← Nat.pow_add]; exact Nat.pow_le_pow_right (by decide) (by decide))
  refine ⟨rfl, s_ret (M := NoM) ((ev_call2 (spec_fraction (a.num * b.den) (a.den * b.num.natAbs) hz hd)
    (ev_mul (sm_nd ha hb) (ev_num (ev_var rfl r1)) (ev_den (ev_var rfl r2)))
    ((ev_mul (wmul (a := 3999) (b := 3999) (by rw [Int.natAbs_natCast]; exact ha.2) hb.1 (by decide)) (ev_den (ev_var rfl r1)) (ev_num (ev_var rfl r2))).is (by rw [Int.natCast_mul, hn2]))).is ?_) s fun y G2 H2 g2 r4 => k y G2 H2 g2 r4⟩
  have q1 : Rat.normalize (a.num * b.den) (a.den * b.num.natAbs) hz = ((a.num * b.den : Int) : Rat) / ((a.den * b.num.natAbs : Nat) : Rat) := by
    rw [Rat.normalize_eq_mkRat, Rat.mkRat_eq_div]
  rw [q1]
  have ea : a = (a.num : Rat) / (a.den : Rat) := by rw [← Rat.mkRat_eq_div, Rat.mkRat_self]
  have eb : b = (b.num : Rat) / (b.den : Rat) := by rw [← Rat.mkRat_eq_div, Rat.mkRat_self]
  have n1 : ((b.num.natAbs : Nat) : Rat) = (b.num : Rat) := by
    rw [← Rat.intCast_natCast, hn2]
  have d1 : (a.den : Rat) ≠ 0 := by simpa using a.den_nz
  have d2 : (b.den : Rat) ≠ 0 := by simpa using b.den_nz
  have d3 : (b.num : Rat) ≠ 0 := by
    intro z
    have : b.num = 0 := by simpa using z
    omega
  have e2 : a / b = ((a.num : Rat) / (a.den : Rat)) / ((b.num : Rat) / (b.den : Rat)) := by rw [← ea, ← eb]
  rw [e2, Rat.natCast_mul, n1, Rat.intCast_mul]
  have z : ((b.den : Int) : Rat) = (b.den : Rat) := Rat.intCast_natCast _
  rw [z]
  grind
end
end My

/-! Segments of lanes. -/
namespace My
open PySem PySem.Spec PyProof.Rows L2
open He (ga ma)
structure Seg where
  op : Rat
  cl : Rat
  rate : Rat
  ow : Option Nat
  deriving DecidableEq
def owV : Option Nat → V
  | none => .non
  | some n => .int (n : Int)
def segFs (v1 v2 v3 v4 : V) : List (Str × V) := [("opening", v1), ("closing", v2), ("rate", v3), ("owner", v4)]
def tOw : Ty (Option Nat) := ⟨fun o v _ => v = owV o, fun _ h => h⟩
def tSeg (K : PySem.W.Frag) : Ty Seg := ⟨fun s v G => ∃ p dx v1 v2 v3, v = .ref p ∧ G p = some (.ins (ga K "Segment") dx (segFs v1 v2 v3 (owV s.ow))) ∧ (tFr K).rel s.op v1 G ∧ (tFr K).rel s.cl v2 G ∧ (tFr K).rel s.rate v3 G,
  fun s ⟨p, dx, v1, v2, v3, e, h, r1, r2, r3⟩ => ⟨p, dx, v1, v2, v3, e, s p _ h, (tFr K).mono s r1, (tFr K).mono s r2, (tFr K).mono s r3⟩⟩
/-- what the head says of the class and the constant -/
structure SegK (K : PySem.W.Frag) : Prop where
  cl : Cls K (ga K "Segment")
  n1 : NoAttr K (ga K "Segment") "opening"
  n2 : NoAttr K (ga K "Segment") "closing"
  n3 : NoAttr K (ga K "Segment") "rate"
  n4 : NoAttr K (ga K "Segment") "owner"
  zero : ∀ H, SqT K H (ga K "ZERO") [.int 0, .int 1]
theorem d12 : ¬ (("closing" : Str) = "opening") := by decide +kernel
theorem d13 : ¬ (("rate" : Str) = "opening") := by decide +kernel
theorem d14 : ¬ (("owner" : Str) = "opening") := by decide +kernel
theorem d23 : ¬ (("rate" : Str) = "closing") := by decide +kernel
theorem d24 : ¬ (("owner" : Str) = "closing") := by decide +kernel
theorem d34 : ¬ (("owner" : Str) = "rate") := by decide +kernel
theorem lk_cons (f g : Str) (v : V) (r : List (Str × V)) : ((f, v) :: r).lookup g = if g = f then some v else r.lookup g := by
  show (match g == f with | true => some v | false => r.lookup g) = _
  by_cases h : g = f
  · rw [if_pos h, beq_iff_eq.mpr h]
  · rw [if_neg h, beq_eq_false_iff_ne.mpr h]
section
variable {v1 v2 v3 v4 : V}
theorem lk1 : (segFs v1 v2 v3 v4).lookup ("opening" : Str) = some v1 := by unfold segFs; rw [lk_cons, if_pos rfl]
theorem lk2 : (segFs v1 v2 v3 v4).lookup ("closing" : Str) = some v2 := by unfold segFs; rw [lk_cons, if_neg d12, lk_cons, if_pos rfl]
theorem lk3 : (segFs v1 v2 v3 v4).lookup ("rate" : Str) = some v3 := by unfold segFs; rw [lk_cons, if_neg d13, lk_cons, if_neg d23, lk_cons, if_pos rfl]
theorem lk4 : (segFs v1 v2 v3 v4).lookup ("owner" : Str) = some v4 := by unfold segFs; rw [lk_cons, if_neg d14, lk_cons, if_neg d24, lk_cons, if_neg d34, lk_cons, if_pos rfl]
theorem lk0 {m : Str} (h1 : ¬ m = "opening") (h2 : ¬ m = "closing") (h3 : ¬ m = "rate") (h4 : ¬ m = "owner") : (segFs v1 v2 v3 v4).lookup m = none := by
  unfold segFs; rw [lk_cons, if_neg h1, lk_cons, if_neg h2, lk_cons, if_neg h3, lk_cons, if_neg h4]; rfl
theorem put4 : putF "owner" v4 (putF "rate" v3 (putF "closing" v2 (putF "opening" v1 []))) = segFs v1 v2 v3 v4 := by
  have e2 : putF "closing" v2 [(("opening" : Str), v1)] = ([("opening", v1), ("closing", v2)] : List (Str × V)) := by
    show (if ("opening" : Str) = "closing" then [(("opening" : Str), v2)] else (("opening" : Str), v1) :: putF "closing" v2 []) = _
    rw [if_neg (fun h => d12 h.symm)]
    rfl
  have e3 : putF "rate" v3 ([("opening", v1), ("closing", v2)] : List (Str × V)) = ([("opening", v1), ("closing", v2), ("rate", v3)] : List (Str × V)) := by
    show (if ("opening" : Str) = "rate" then _ else (("opening" : Str), v1) :: (if ("closing" : Str) = "rate" then _ else (("closing" : Str), v2) :: putF "rate" v3 [])) = _
    rw [if_neg (fun h => d13 h.symm), if_neg (fun h => d23 h.symm)]
    rfl
  show putF "owner" v4 (putF "rate" v3 (putF "closing" v2 [(("opening" : Str), v1)])) = _
  rw [e2, e3]
  show (if ("opening" : Str) = "owner" then _ else (("opening" : Str), v1) :: (if ("closing" : Str) = "owner" then _ else (("closing" : Str), v2) :: (if ("rate" : Str) = "owner" then _ else (("rate" : Str), v3) :: putF "owner" v4 []))) = _
  rw [if_neg (fun h => d14 h.symm), if_neg (fun h => d24 h.symm), if_neg (fun h => d34 h.symm)]
  rfl
end
section
variable {M : Addr → Prop} {σ : SS} {G H : Hp} {K : PySem.W.Frag} {α β γ δ : Type}
theorem ev_fld {ta : TE} {s : Seg} {f : Str} {T : Ty γ} {z : γ} (N : SegK K) (nf : NoAttr K (ga K "Segment") f) (ha : EvT M ta σ G H (tSeg K) s) (hz : ∀ v1 v2 v3 G1, (tFr K).rel s.op v1 G1 → (tFr K).rel s.cl v2 G1 → (tFr K).rel s.rate v3 G1 → ∃ u, (segFs v1 v2 v3 (owV s.ow)).lookup f = some u ∧ T.rel z u G1) : EvT M (tFld K ta f) σ G H T z :=
  fun G1 H1 g Q k => ha G1 H1 g _ fun v G2 H2 g2 r2 => by
    obtain ⟨p, dx, v1, v2, v3, rfl, hp, r1, r2, r3⟩ := r2
    obtain ⟨u, e, ru⟩ := hz v1 v2 v3 G2 r1 r2 r3
    exact ⟨p, _, dx, _, u, rfl, g2.s p _ hp, N.cl, nf, e, k u G2 H2 g2 ru⟩
variable {ta : TE} {s : Seg}
theorem ev_opening (N : SegK K) (ha : EvT M ta σ G H (tSeg K) s) : EvT M (tFld K ta "opening") σ G H (tFr K) s.op := ev_fld N N.n1 ha fun v1 v2 v3 _ r1 _ _ => ⟨v1, lk1, r1⟩
theorem ev_closing (N : SegK K) (ha : EvT M ta σ G H (tSeg K) s) : EvT M (tFld K ta "closing") σ G H (tFr K) s.cl := ev_fld N N.n2 ha fun v1 v2 v3 _ _ r2 _ => ⟨v2, lk2, r2⟩
theorem ev_rate (N : SegK K) (ha : EvT M ta σ G H (tSeg K) s) : EvT M (tFld K ta "rate") σ G H (tFr K) s.rate := ev_fld N N.n3 ha fun v1 v2 v3 _ _ _ r3 => ⟨v3, lk3, r3⟩
theorem ev_owner (N : SegK K) (ha : EvT M ta σ G H (tSeg K) s) : EvT M (tFld K ta "owner") σ G H tOw s.ow := ev_fld N N.n4 ha fun v1 v2 v3 _ _ _ _ => ⟨_, lk4, rfl⟩
theorem ev_meth1 {sp : Sp} {E : XK} {m : Str} {U : Ty γ} {z : γ} (hm : ∀ v1 v2 v3 v4, (segFs v1 v2 v3 v4).lookup m = none) (hs : Spec1 sp (tSeg K) U s z) (ha : EvT M ta σ G H (tSeg K) s) : EvT M (tMeth (ga K "Segment") m sp [] E ta tNil) σ G H U z :=
  fun G1 H1 g Q k => ha G1 H1 g _ fun v G2 H2 g2 r2 => by
    have r := r2
    obtain ⟨p, dx, v1, v2, v3, rfl, hp, _, _, _⟩ := r2
    exact ⟨p, dx, _, rfl, g2.s p _ hp, hm _ _ _ _, hs G2 H2 _ Q E g2.s r fun u G3 H3 g3 r3 => k u G3 H3 (g2.trans g3) r3⟩
theorem ev_meth3 {sp : Sp} {E : XK} {m : Str} {S : Ty β} {R : Ty δ} {U : Ty γ} {y : β} {t : δ} {z : γ} {tb tc : TE} (hm : ∀ v1 v2 v3 v4, (segFs v1 v2 v3 v4).lookup m = none) (hs : Spec3 sp (tSeg K) S R U s y t z) (ha : EvT M ta σ G H (tSeg K) s) (hb : EvT M tb σ G H S y)
    (hc : EvT M tc σ G H R t) : EvT M (tMeth (ga K "Segment") m sp [] E ta (tCons tb (tCons tc tNil))) σ G H U z :=
  fun G1 H1 g Q k => ha G1 H1 g _ fun v G2 H2 g2 r2 => by
    have r := r2
    obtain ⟨p, dx, v1, v2, v3, rfl, hp, _, _, _⟩ := r2
    exact ⟨p, dx, _, rfl, g2.s p _ hp, hm _ _ _ _, hb G2 H2 (g.trans g2.up) _ fun w G3 H3 g3 r3 => hc G3 H3 ((g.trans g2.up).trans g3.up) _ fun u G4 H4 g4 r4 =>
      hs G4 H4 _ w u Q E g4.s ((tSeg K).mono (g3.g.trans g4.g) r) (S.mono g4.g r3) r4 fun x G5 H5 g5 r5 => k x G5 H5 (((g2.trans g3).trans g4).trans g5) r5⟩
theorem no_content (v1 v2 v3 v4 : V) : (segFs v1 v2 v3 v4).lookup ("content" : Str) = none := lk0 (by decide +kernel) (by decide +kernel) (by decide +kernel) (by decide +kernel)
theorem no_between (v1 v2 v3 v4 : V) : (segFs v1 v2 v3 v4).lookup ("between" : Str) = none := lk0 (by decide +kernel) (by decide +kernel) (by decide +kernel) (by decide +kernel)
/-- Segment(a, b, r, o) -/
theorem ev_mk (N : SegK K) {E : XK} {t1 t2 t3 t4 : TE} {s : Seg} (h1 : EvT M t1 σ G H (tFr K) s.op) (h2 : EvT M t2 σ G H (tFr K) s.cl) (h3 : EvT M t3 σ G H (tFr K) s.rate) (h4 : EvT M t4 σ G H tOw s.ow) :
    EvT M (tMake (ga K "Segment") (sp_Segment_init K) [] E (tCons t1 (tCons t2 (tCons t3 (tCons t4 tNil))))) σ G H (tSeg K) s :=
  fun G1 H1 g Q k => h1 G1 H1 g _ fun v1 G2 H2 g2 r1 => h2 G2 H2 (g.trans g2.up) _ fun v2 G3 H3 g3 r2 => h3 G3 H3 ((g.trans g2.up).trans g3.up) _ fun v3 G4 H4 g4 r3 => h4 G4 H4 (((g.trans g2.up).trans g3.up).trans g4.up) _ fun v4 G5 H5 g5 r4 => fun x dx hx hd ne => by
    cases r4
    have gg := ((g2.trans g3).trans g4).trans g5
    have hdx : dx ≠ x := ne
    refine ⟨rfl, ⟨_, rfl, _, rfl, x, ga K "Segment", dx, [], rfl, upd_same, N.cl, N.n1, (by show 0 < 1000; decide), _, rfl, _, rfl, x, _, dx, _, rfl, upd_same, N.cl, N.n2, (by show 1 < 1000; decide), _, rfl, _, rfl, x, _, dx, _, rfl, upd_same, N.cl, N.n3, ?_, _, rfl, _, rfl, x, _, dx, _, rfl, upd_same, N.cl, N.n4, ?_, rfl, ?_⟩⟩
    · exact Nat.lt_of_le_of_lt (Nat.le_trans (length_putF _ _ _) (Nat.succ_le_succ (length_putF _ _ _))) (by show 2 < 1000; decide)
    · exact Nat.lt_of_le_of_lt (Nat.le_trans (length_putF _ _ _) (Nat.succ_le_succ (Nat.le_trans (length_putF _ _ _) (Nat.succ_le_succ (length_putF _ _ _))))) (by show 3 < 1000; decide)
    · rw [put4, upd_upd, upd_upd, upd_upd, upd_upd]
      have a1 : Grow NoM G1 H1 G5 (upd H5 dx (.own x)) := gg.made hd
      have hx2 : (upd H5 dx (.own x)) x = none := by rw [upd_ne (Ne.symm hdx)]; exact hx
      have a2 : Grow NoM G1 H1 (upd G5 x (.ins (ga K "Segment") dx (segFs v1 v2 v3 (owV s.ow)))) (upd (upd H5 dx (.own x)) x (.ins (ga K "Segment") dx (segFs v1 v2 v3 (owV s.ow)))) := a1.alloc hx2
      have sx : Same G5 (upd G5 x (.ins (ga K "Segment") dx (segFs v1 v2 v3 (owV s.ow)))) := same_upd (gg.ga hx)
      exact k _ _ _ a2 ⟨x, dx, v1, v2, v3, rfl, upd_same, (tFr K).mono (((g3.g.trans g4.g).trans g5.g).trans sx) r1, (tFr K).mono ((g4.g.trans g5.g).trans sx) r2, (tFr K).mono (g5.g.trans sx) r3⟩
theorem ev_zero (N : SegK K) : EvT M (tC (.ref (ga K "ZERO"))) σ G H (tFr K) 0 := ev_c ⟨_, rfl, N.zero G⟩
end
end My

/-! Lanes: the defs as functions on lists of segments, and that the program's defs are these. -/
namespace My
open PySem PySem.Spec PyProof.Rows L2
open He (ga ma)

/-! ### numbers over one denominator -/
/-- q is n / D with |n| ≤ b -/
def Gr (D b : Nat) (q : Rat) : Prop := ∃ n : Int, q * (D : Rat) = (n : Rat) ∧ n.natAbs ≤ b
theorem Gr.mono {D a b : Nat} {q : Rat} (h : Gr D a q) (hab : a ≤ b) : Gr D b q := let ⟨n, e, l⟩ := h; ⟨n, e, Nat.le_trans l hab⟩
theorem Gr.add {D a b : Nat} {p q : Rat} (h : Gr D a p) (k : Gr D b q) : Gr D (a + b) (p + q) := by
  obtain ⟨n, e, l⟩ := h
  obtain ⟨m, f, l2⟩ := k
  refine ⟨n + m, ?_, by omega⟩
  rw [Rat.intCast_add, ← e, ← f]
  grind
theorem Gr.sub {D a b : Nat} {p q : Rat} (h : Gr D a p) (k : Gr D b q) : Gr D (a + b) (p - q) := by
  obtain ⟨n, e, l⟩ := h
  obtain ⟨m, f, l2⟩ := k
  refine ⟨n - m, ?_, by omega⟩
  rw [Rat.intCast_sub, ← e, ← f]
  grind
theorem Gr.nmul {D b : Nat} {q : Rat} (r : Nat) (k : Gr D b q) : Gr D (r * b) ((r : Rat) * q) := by
  obtain ⟨n, e, l⟩ := k
  refine ⟨r * n, ?_, ?_⟩
  · rw [Rat.intCast_mul, ← e, Rat.intCast_natCast]
    grind
  · rw [Int.natAbs_mul, Int.natAbs_natCast]
    exact Nat.mul_le_mul_left _ l
theorem Gr.nat (D r : Nat) : Gr D (r * D) (r : Rat) := ⟨(r * D : Nat), by rw [Rat.intCast_natCast, Rat.natCast_mul], by rw [Int.natAbs_natCast]; exact Nat.le_refl _⟩
theorem Gr.zero (D b : Nat) : Gr D b 0 := ⟨0, by grind, by simp⟩
theorem Gr.eq {D b : Nat} {q : Rat} (hD : D ≠ 0) (h : Gr D b q) : ∃ n : Int, n.natAbs ≤ b ∧ q = Rat.normalize n D hD := by
  obtain ⟨n, e, l⟩ := h
  refine ⟨n, l, ?_⟩
  rw [Rat.normalize_eq_mkRat, Rat.mkRat_eq_div, ← e]
  have : (D : Rat) ≠ 0 := by simpa using hD
  grind
theorem Gr.sm {D b : Nat} {q : Rat} (hD : D ≠ 0) (h1 : D < 2 ^ 4000) (h2 : b < 2 ^ 4000) (h : Gr D b q) : Sm q := by
  obtain ⟨n, l, e⟩ := h.eq hD
  rw [e, Rat.normalize_eq]
  refine ⟨?_, Nat.lt_of_le_of_lt (Nat.div_le_self _ _) h1⟩
  show (n / ((n.natAbs.gcd D : Nat) : Int)).natAbs < _
  have g0 : 0 < n.natAbs.gcd D := Nat.gcd_pos_of_pos_right _ (Nat.pos_of_ne_zero hD)
  have dv : ((n.natAbs.gcd D : Nat) : Int) ∣ n := Int.ofNat_dvd_left.mpr (Nat.gcd_dvd_left _ _)
  rw [Int.natAbs_ediv_of_dvd dv, Int.natAbs_natCast]
  exact Nat.lt_of_le_of_lt (Nat.div_le_self _ _) (Nat.lt_of_le_of_lt l h2)

/-! ### the defs as functions -/
def content (s : Seg) : Rat := s.rate * (s.cl - s.op)
def cut (s : Seg) (f l : Rat) : Option Seg :=
  let f' := if decide (s.op < f) then f else s.op
  let l' := if decide (l < s.cl) then l else s.cl
  if decide (f' < l') then some ⟨f', l', s.rate, s.ow⟩ else none
def capOf (lane : List Seg) : Rat := lane.foldl (fun a s => a + content s) 0
def laneB (lane : List Seg) (f l : Rat) : List Seg := lane.filterMap fun s => cut s f l
/-- bounds of a lane whose moments are over D, whose rates are whole -/
structure SegOk (D : Nat) (s : Seg) : Prop where
  op : Gr D (2 ^ 3200) s.op
  cl : Gr D (2 ^ 3200) s.cl
  rate : ∃ r : Nat, s.rate = (r : Rat) ∧ r ≤ 2 ^ 64
structure DOk (D : Nat) : Prop where
  pos : D ≠ 0
  lt : D < 2 ^ 3000
structure LaneOk (D : Nat) (lane : List Seg) : Prop where
  seg : ∀ s ∈ lane, SegOk D s
  len : lane.length ≤ 1000
theorem DOk.sm {D b : Nat} {q : Rat} (d : DOk D) (h : Gr D b q) (hb : b ≤ 2 ^ 3900) : Sm q := h.sm d.pos (Nat.lt_trans d.lt (by decide)) (Nat.lt_of_le_of_lt hb (by decide))
theorem sm_nat {r : Nat} (h : r ≤ 2 ^ 3900) : Sm (r : Rat) := ⟨by simpa using Nat.lt_of_le_of_lt h (by decide), by show 1 < _; decide⟩
theorem sm_zero : Sm 0 := ⟨by decide, by decide⟩
theorem content_gr {D : Nat} {s : Seg} (h : SegOk D s) : Gr D (2 ^ 64 * (2 ^ 3200 + 2 ^ 3200)) (content s) := by
  obtain ⟨r, e, l⟩ := h.rate
  unfold content
  rw [e]
  exact ((h.cl.sub h.op).nmul r).mono (Nat.mul_le_mul_right _ l)
theorem cap_gr {D : Nat} : ∀ (lane : List Seg) (a : Rat) (b : Nat), (∀ s ∈ lane, SegOk D s) → Gr D b a → Gr D (b + lane.length * (2 ^ 64 * (2 ^ 3200 + 2 ^ 3200))) (lane.foldl (fun a s => a + content s) a)
  | [], a, b, _, h => by simpa using h
  | s :: r, a, b, hs, h => by
    have q := cap_gr r (a + content s) (b + 2 ^ 64 * (2 ^ 3200 + 2 ^ 3200)) (fun x hx => hs x (List.mem_cons_of_mem _ hx)) (h.add (content_gr (hs s List.mem_cons_self)))
    refine q.mono ?_
    rw [List.length_cons, Nat.add_mul, Nat.one_mul]
    omega
theorem cap_sm {D : Nat} {lane : List Seg} (h : ∀ s ∈ lane, SegOk D s) (hl : lane.length ≤ 1000) : Gr D (2 ^ 3300) (capOf lane) := by
  refine (cap_gr lane 0 0 h (Gr.zero _ _)).mono ?_
  rw [Nat.zero_add]
  exact Nat.le_trans (Nat.mul_le_mul_right _ hl) (by decide)
section
variable {K : PySem.W.Frag} {D : Nat}
theorem spec_content (N : SegK K) (d : DOk D) {s : Seg} (h : SegOk D s) : Spec1 (sp_Segment_content K) (tSeg K) (tFr K) s (content s) := by
  intro G H v Q E sm r1 k
  obtain ⟨r, e, l⟩ := h.rate
  have s1 : Sm s.rate := by rw [e]; exact sm_nat (Nat.le_trans l (by decide))
  exact ⟨rfl, s_ret (M := NoM) (ev_call2 (spec_times s1 (d.sm (h.cl.sub h.op) (by decide))) (ev_rate N (ev_var rfl r1)) (ev_call2 (spec_minus (d.sm h.cl (by decide)) (d.sm h.op (by decide))) (ev_closing N (ev_var rfl r1)) (ev_opening N (ev_var rfl r1)))) sm k⟩
theorem ev_some {M : Addr → Prop} {σ : SS} {G H : Hp} {α : Type} {te : TE} {T : Ty α} {x : α} (hn : ∀ v G, T.rel x v G → v ≠ .non) (h : EvT M te σ G H T x) : EvT M te σ G H (tOpt T) (some x) := fun G1 H1 g Q k => h G1 H1 g Q fun v G2 H2 g2 r2 => k v G2 H2 g2 ⟨hn v G2 r2, r2⟩
theorem ev_none {M : Addr → Prop} {σ : SS} {G H : Hp} {α : Type} {T : Ty α} : EvT M (tC .non) σ G H (tOpt T) none := ev_c rfl
theorem seg_ne {s : Seg} : ∀ v G, (tSeg K).rel s v G → v ≠ .non := by
  rintro v G ⟨p, dx, v1, v2, v3, rfl, _⟩
  exact fun z => nomatch z
theorem spec_between (N : SegK K) (d : DOk D) {s : Seg} (h : SegOk D s) {f l : Rat} (hf : Sm f) (hl : Sm l) : Spec3 (sp_Segment_between K) (tSeg K) (tFr K) (tFr K) (tOpt (tSeg K)) s f l (cut s f l) := by
  intro G H v w r Q E sm r1 r2 r3 k
  have so : Sm s.op := d.sm h.op (by decide)
  have sc : Sm s.cl := d.sm h.cl (by decide)
  refine ⟨rfl, q_asg (M := NoM) (ev_if (eb_B (ev_call2 (spec_less so hf) (ev_opening N (ev_var rfl r1)) (ev_var rfl r2))) (fun _ => ev_var rfl r2) (fun _ => ev_opening N (ev_var rfl r1))) sm fun v1 G1 H1 g1 q1 => ?_⟩
  refine q_asg (M := NoM) (ev_if (eb_B (ev_call2 (spec_less hl sc) (ev_var rfl ((tFr K).mono g1.g r3)) (ev_closing N (ev_var rfl ((tSeg K).mono g1.g r1))))) (fun _ => ev_var rfl ((tFr K).mono g1.g r3)) (fun _ => ev_closing N (ev_var rfl ((tSeg K).mono g1.g r1)))) g1.s fun v2 G2 H2 g2 q2 => ?_
  have q1' := (tFr K).mono g2.g q1
  have r1' := (tSeg K).mono (g1.g.trans g2.g) r1
  have s1 : Sm (if decide (s.op < f) = true then f else s.op) := by split <;> assumption
  have s2 : Sm (if decide (l < s.cl) = true then l else s.cl) := by split <;> assumption
  exact s_ret (M := NoM) (ev_if (eb_B (ev_call2 (spec_less s1 s2) (ev_var rfl q1') (ev_var rfl q2))) (fun _ => ev_some seg_ne (ev_mk N (s := ⟨_, _, s.rate, s.ow⟩) (ev_var rfl q1') (ev_var rfl q2) (ev_rate (s := s) N (ev_var rfl r1')) (ev_owner (s := s) N (ev_var rfl r1')))) (fun _ => ev_none)) g2.s fun u G3 H3 g3 q3 => k u G3 H3 ((g1.trans g2).trans g3) q3
theorem spec_capacity (N : SegK K) (d : DOk D) {lane : List Seg} (h : LaneOk D lane) : Spec1 (sp_capacity_of K) (tLs (tSeg K)) (tFr K) lane (capOf lane) := by
  intro G H v Q E sm r1 k
  refine ⟨rfl, q_asg (M := NoM) (ev_zero N) sm fun v1 G1 H1 g1 q1 => ?_⟩
  refine q_for (M := NoM) (xs := lane) (T := tSeg K) (ev_var rfl ((tLs _).mono g1.g r1)) g1.s (fun i σ G' H' => ∃ w u, σ = [some v, some w, u] ∧ Grow NoM G H G' H' ∧ (tFr K).rel ((lane.take i).foldl (fun a s => a + content s) 0) w G') (fun G2 H2 g2 => ⟨v1, none, rfl, g1.trans g2, (tFr K).mono g2.g q1⟩) (fun i σ G' H' ⟨_, _, _, g, _⟩ => g.s) ?_ ?_
  · rintro G0 i s u σ G' H' s0 hi ⟨w, u', rfl, g, rw'⟩ ru
    have hm : s ∈ lane := List.mem_of_getElem? hi
    have b1 : Gr D (2 ^ 3300) ((lane.take i).foldl (fun a s => a + content s) 0) := cap_sm (fun x hx => h.seg x (List.mem_of_mem_take hx)) (Nat.le_trans (by rw [List.length_take]; omega) h.len)
    refine s_asg (M := NoM) (ev_call2 (spec_plus (d.sm b1 (by decide)) (d.sm (content_gr (h.seg s hm)) (by decide))) (ev_var rfl rw') (ev_meth1 no_content (spec_content N d (h.seg s hm)) (ev_var rfl ru))) g.s fun w2 G3 H3 g3 q3 => ?_
    refine ⟨G3, s0.trans g3.g, w2, some u, rfl, g.trans g3, ?_⟩
    rw [List.take_add_one, hi]
    show (tFr K).rel ((lane.take i ++ [s]).foldl (fun a s => a + content s) 0) w2 G3
    rw [List.foldl_append]
    exact q3
  · rintro σ G' H' ⟨w, u, rfl, g, rw'⟩
    rw [List.take_length] at rw'
    exact s_ret (M := NoM) (ev_var rfl rw') g.s fun u G3 H3 g3 q3 => k u G3 H3 (g.trans g3) q3
theorem laneB_eq (lane : List Seg) (f l : Rat) (d : Seg) : ((lane.map fun s => cut s f l).filter Option.isSome).map (fun o => o.getD d) = laneB lane f l := by
  unfold laneB
  induction lane with
  | nil => rfl
  | cons s r ih =>
    rw [List.map_cons, List.filterMap_cons, List.filter_cons]
    cases e : cut s f l with
    | none => simpa using ih
    | some x => simpa using ih
theorem spec_laneB (N : SegK K) (d : DOk D) {lane : List Seg} (h : LaneOk D lane) {f l : Rat} (hf : Sm f) (hl : Sm l) : Spec3 (sp_lane_between K) (tLs (tSeg K)) (tFr K) (tFr K) (tLs (tSeg K)) lane f l (laneB lane f l) := by
  intro G H v w r Q E sm r1 r2 r3 k
  refine ⟨rfl, q_asg (M := NoM) (ev_lcm (f := fun s => cut s f l) (T := tSeg K) (S := tOpt (tSeg K)) (ev_var rfl r1) (Nat.le_trans h.len (by decide)) (fun x => rfl) fun s u G1 H1 hs g1 ru => ev_meth3 no_between (spec_between N d (h.seg s hs) hf hl) (ev_var rfl ru) (ev_var rfl ((tFr K).mono g1.g r2)) (ev_var rfl ((tFr K).mono g1.g r3))) sm fun v1 G1 H1 g1 q1 => ?_⟩
  refine s_ret (M := NoM) ((ev_lc (p := Option.isSome) (f := fun o => o.getD ⟨0, 0, 0, none⟩) (T := tOpt (tSeg K)) (S := tSeg K) (ev_var rfl q1) (by rw [List.length_map]; exact Nat.le_trans h.len (by decide)) (fun x => rfl) (fun o u G2 H2 _ g2 ru => eb_test (ev_notN (ev_var rfl ru))) fun o u G2 H2 _ ho g2 ru => ?_).is (laneB_eq lane f l _)) g1.s fun u G2 H2 g2 q2 => k u G2 H2 (g1.trans g2) q2
  cases o with
  | none => cases ho
  | some s => exact ev_var rfl ru.2
end
end My

/-! Lanes joined, their rates, the moments, the switch. -/
namespace My
open PySem PySem.Spec PyProof.Rows L2
open He (ga ma)
def joinL (a b : List Seg) : List Seg := match a[a.length - 1]?, b[0]? with
  | some x, some y => if x.ow = y.ow then (a.dropLast ++ [⟨x.op, y.cl, x.rate, x.ow⟩]) ++ b.drop 1 else a ++ b
  | _, _ => a ++ b
def rateAt (lane : List Seg) (t : Rat) : Rat := match lane.find? fun s => decide (t < s.cl) with
  | some s => s.rate
  | none => 0
def leastOf (x : Rat) (xs : List Rat) : Rat := xs.foldl (fun l m => if decide (m < l) then m else l) x
def sortD : Nat → List Rat → List Rat
  | 0, _ => []
  | _ + 1, [] => []
  | n + 1, x :: xs => leastOf x (x :: xs) :: sortD n ((x :: xs).filter fun m => !decide (m = leastOf x (x :: xs)))
section
variable {M : Addr → Prop} {σ : SS} {G H : Hp} {K : PySem.W.Frag} {D : Nat}
theorem scal_ow (a b : Option Nat) : scal (owV a) (owV b) = true := by cases a <;> cases b <;> rfl
theorem ow_inj (a b : Option Nat) : decide (owV a = owV b) = decide (a = b) := by
  refine decide_eq_decide.mpr ⟨fun h => ?_, fun h => by rw [h]⟩
  cases a with
  | none => cases b with
    | none => rfl
    | some n => cases h
  | some m => cases b with
    | none => cases h
    | some n =>
      have h1 : (m : Int) = (n : Int) := V.int.inj h
      rw [Int.ofNat_inj.mp h1]
theorem ev_neOw {ta tb : TE} {a b : Option Nat} (ha : EvT M ta σ G H tOw a) (hb : EvT M tb σ G H tOw b) : EvT M (tOp rNe ta tb) σ G H tBool (!decide (a = b)) :=
  ev_op ha hb fun v w G1 H1 s sg r1 r2 Q k => by
    cases r1
    cases r2
    exact ⟨scal_ow a b, k _ G1 H1 (Grow.refl s) (congrArg V.bl (congrArg not (ow_inj a b)))⟩
theorem spec_joined (N : SegK K) {a b : List Seg} (hz : a.length + b.length ≤ 10000) : Spec2 (sp_joined K) (tLs (tSeg K)) (tLs (tSeg K)) (tLs (tSeg K)) a b (joinL a b) := by
  intro G H v w Q E sm r1 r2 k
  have zl : a.length + b.length ≤ sizeLine := Nat.le_trans hz (by decide)
  have plain : ∀ c : Bool, EvB NoM (tOr (tTest (tOp (rEqNil K) (tVar 0) (tLst tNil))) (tOr (tTest (tOp (rEqNil K) (tVar 1) (tLst tNil))) (tTest (tOp rNe (tFld K (tOp (rIxL K) (tVar 0) (tUn rNegI (tC (.int 1)))) "owner") (tFld K (tOp (rIxL K) (tVar 1) (tC (.int 0))) "owner"))))) (start n_joined [v, w]) G H c →
      (c = true → joinL a b = a ++ b) → (c = false → ∃ x y, a[a.length - 1]? = some x ∧ b[0]? = some y ∧ x.ow = y.ow) → sp_joined K [v, w] H Q E := fun c hb h1 h2 => by
    refine ⟨rfl, q_when hb sm (fun hc G1 H1 g1 => ?_) fun hc G1 H1 g1 => ?_⟩
    · rw [h1 hc] at k
      exact s_ret (M := NoM) (ev_cat (T := tSeg K) zl (ev_var rfl ((tLs _).mono g1.g r1)) (ev_var rfl ((tLs _).mono g1.g r2))) g1.s fun u G2 H2 g2 q => k u G2 H2 (g1.trans g2) q
    · obtain ⟨x, y, hx, hy, ho⟩ := h2 hc
      have e : joinL a b = (a.dropLast ++ [⟨x.op, y.cl, x.rate, x.ow⟩]) ++ b.drop 1 := by
        unfold joinL
        rw [hx, hy]
        exact if_pos ho
      rw [e] at k
      refine q_par (M := NoM) (T := tSeg K) (S := tSeg K) (x := x) (y := y) (ev_last hx (ev_var rfl ((tLs _).mono g1.g r1))) (ev_ix (j := 0) rfl hy (ev_var rfl ((tLs _).mono g1.g r2)) ev_int) g1.s fun p q G2 H2 g2 rp rq => ?_
      have r1' := (tLs (tSeg K)).mono (g1.g.trans g2.g) r1
      have r2' := (tLs (tSeg K)).mono (g1.g.trans g2.g) r2
      refine s_ret (M := NoM) (ev_cat (T := tSeg K) ?_ (ev_cat ?_ ((ev_slice (ev_var rfl r1') eo_no (eo_part (ev_neg ev_int))).is cut_front) (ev_lst1 (ev_mk N (s := ⟨x.op, y.cl, x.rate, x.ow⟩) (ev_opening (s := x) N (ev_var rfl rp)) (ev_closing (s := y) N (ev_var rfl rq)) (ev_rate (s := x) N (ev_var rfl rp)) (ev_owner (s := x) N (ev_var rfl rp))))) ((ev_slice (ev_var rfl r2') (eo_part ev_int) eo_no).is (cut_from (k := 1)))) g2.s fun u G3 H3 g3 q => k u G3 H3 ((g1.trans g2).trans g3) q
      · simp only [List.length_append, List.length_dropLast, List.length_singleton, List.length_drop]
        have := (List.getElem?_eq_some_iff.mp hx).1
        omega
      · simp only [List.length_dropLast, List.length_singleton]
        have := (List.getElem?_eq_some_iff.mp hx).1
        omega
  cases ha : a with
  | nil =>
    refine plain true ?_ (fun _ => by rw [ha]; rfl) (fun h => by cases h)
    have h1 : EvB NoM (tTest (tOp (rEqNil K) (tVar 0) (tLst tNil))) (start n_joined [v, w]) G H true := (eb_test (ev_eqNil (T := tSeg K) (ev_var rfl r1))).is (by rw [ha]; rfl)
    exact eb_or h1 (b := true) (fun h => by cases h)
  | cons x0 r0 =>
    have a0 : a.isEmpty = false := by rw [ha]; rfl
    cases hb : b with
    | nil =>
      refine plain true ?_ (fun _ => by rw [hb]; unfold joinL; cases a[a.length - 1]? <;> rfl) (fun h => by cases h)
      exact (eb_or (eb_test (ev_eqNil (T := tSeg K) (ev_var rfl r1))) (b := true) (fun _ => (eb_or (eb_test (ev_eqNil (T := tSeg K) (ev_var rfl r2))) (b := true) (fun h => by rw [hb] at h; cases h)).is (by rw [hb]; rfl))).is (by rw [a0]; rfl)
    | cons y0 s0 =>
      have b0 : b.isEmpty = false := by rw [hb]; rfl
      have hx : a[a.length - 1]? = some (a[a.length - 1]'(by rw [ha]; simp)) := List.getElem?_eq_getElem _
      have hy : b[0]? = some y0 := by rw [hb]; rfl
      generalize (a[a.length - 1]'(by rw [ha]; simp)) = x at hx
      have t : EvB NoM (tOr (tTest (tOp (rEqNil K) (tVar 0) (tLst tNil))) (tOr (tTest (tOp (rEqNil K) (tVar 1) (tLst tNil))) (tTest (tOp rNe (tFld K (tOp (rIxL K) (tVar 0) (tUn rNegI (tC (.int 1)))) "owner") (tFld K (tOp (rIxL K) (tVar 1) (tC (.int 0))) "owner"))))) (start n_joined [v, w]) G H (!decide (x.ow = y0.ow)) :=
        (eb_or (eb_test (ev_eqNil (T := tSeg K) (ev_var rfl r1))) (fun _ => eb_or (eb_test (ev_eqNil (T := tSeg K) (ev_var rfl r2))) fun _ => eb_test (ev_neOw (ev_owner (s := x) N (ev_last hx (ev_var rfl r1))) (ev_owner (s := y0) N (ev_ix (j := 0) rfl hy (ev_var rfl r2) ev_int))))).is (by rw [a0, b0]; rfl)
      refine plain _ t (fun h => ?_) (fun h => ⟨x, y0, hx, hy, by simpa using h⟩)
      unfold joinL
      rw [hx, hy]
      exact if_neg (by simpa using h)
theorem spec_rate (N : SegK K) (d : DOk D) {lane : List Seg} (h : ∀ s ∈ lane, SegOk D s) {t : Rat} (ht : Sm t) : Spec2 (sp_rate_at K) (tLs (tSeg K)) (tFr K) (tFr K) lane t (rateAt lane t) := by
  intro G H v w Q E sm r1 r2 k
  refine ⟨rfl, q_for (M := NoM) (xs := lane) (T := tSeg K) (ev_var rfl r1) sm (fun i σ G' H' => ∃ u, σ = [some v, some w, u] ∧ Grow NoM G H G' H' ∧ ∀ s ∈ lane.take i, decide (t < s.cl) = false) (fun G1 H1 g1 => ⟨none, rfl, g1, fun s hs => by simp at hs⟩) (fun i σ G' H' ⟨_, _, g, _⟩ => g.s) ?_ ?_⟩
  · rintro G0 i s u σ G' H' s0 hi ⟨u', rfl, g, hall⟩ ru
    have hm : s ∈ lane := List.mem_of_getElem? hi
    refine s_when (M := NoM) (eb_B (ev_call2 (spec_less ht (d.sm (h s hm).cl (by decide))) (ev_var rfl ((tFr K).mono g.g r2)) (ev_closing N (ev_var rfl ru)))) g.s (fun hb G2 H2 g2 => ?_) fun hb G2 H2 g2 => ?_
    · have e : rateAt lane t = s.rate := by
        unfold rateAt
        have : lane.find? (fun s => decide (t < s.cl)) = some s := by
          rw [List.find?_eq_some_iff_getElem]
          refine ⟨hb, i, (List.getElem?_eq_some_iff.mp hi).1, (List.getElem?_eq_some_iff.mp hi).2, fun j hj => ?_⟩
          have hj2 : j < lane.length := Nat.lt_trans hj (List.getElem?_eq_some_iff.mp hi).1
          rw [hall lane[j] (by rw [List.mem_take_iff_getElem]; exact ⟨j, by omega, rfl⟩)]
          rfl
        rw [this]
      rw [e] at k
      exact s_ret (M := NoM) (ev_rate N (ev_var rfl ((tSeg K).mono g2.g ru))) g2.s fun x G3 H3 g3 q => k x G3 H3 ((g.trans g2).trans g3) q
    · refine ⟨G2, s0.trans g2.g, some u, rfl, g.trans g2, fun x hx => ?_⟩
      rw [List.take_add_one, hi] at hx
      rcases List.mem_append.mp hx with hx | hx
      · exact hall x hx
      · have : x = s := by simpa using hx
        rw [this]
        exact hb
  · rintro σ G' H' ⟨u, rfl, g, hall⟩
    have e : rateAt lane t = 0 := by
      unfold rateAt
      have : lane.find? (fun s => decide (t < s.cl)) = none := List.find?_eq_none.mpr fun x hx => by rw [hall x (by rw [List.take_length]; exact hx)]; decide
      rw [this]
    rw [e] at k
    exact s_ret (M := NoM) (ev_zero N) g.s fun x G3 H3 g3 q => k x G3 H3 (g.trans g3) q
theorem least_sm {P : Rat → Prop} {x : Rat} {xs : List Rat} (h0 : P x) (h : ∀ y ∈ xs, P y) : P (leastOf x xs) := by
  unfold leastOf
  induction xs generalizing x with
  | nil => exact h0
  | cons y r ih =>
    rw [List.foldl_cons]
    refine ih ?_ fun z hz => h z (List.mem_cons_of_mem _ hz)
    split
    · exact h y List.mem_cons_self
    · exact h0
theorem least_mem {x : Rat} {xs : List Rat} (h : x ∈ xs) : leastOf x xs ∈ xs := least_sm (P := fun z => z ∈ xs) h fun _ hy => hy
theorem sortD_ext : ∀ (n m : Nat) (xs : List Rat), xs.length ≤ n → xs.length ≤ m → sortD n xs = sortD m xs
  | 0, 0, _, _, _ => rfl
  | 0, m + 1, xs, h, _ => by have : xs = [] := by simpa using h
                             subst this; rfl
  | n + 1, 0, xs, _, h => by have : xs = [] := by simpa using h
                             subst this; rfl
  | n + 1, m + 1, [], _, _ => rfl
  | n + 1, m + 1, x :: xs, h1, h2 => by
    have hlt : ((x :: xs).filter fun m => !decide (m = leastOf x (x :: xs))).length < (x :: xs).length := by
      refine List.length_filter_lt_length_iff_exists.mpr ⟨leastOf x (x :: xs), least_mem List.mem_cons_self, ?_⟩
      simp
    show _ :: sortD n _ = _ :: sortD m _
    rw [sortD_ext n m _ (by simp only [List.length_cons] at *; omega) (by simp only [List.length_cons] at *; omega)]
theorem filter_lt {x : Rat} {xs : List Rat} : ((x :: xs).filter fun m => !decide (m = leastOf x (x :: xs))).length < (x :: xs).length :=
  List.length_filter_lt_length_iff_exists.mpr ⟨leastOf x (x :: xs), least_mem List.mem_cons_self, by simp⟩
def momentsOf (fast slow : List Seg) : List Rat := match fast[0]? with
  | some s => s.op :: sortD ((fast ++ slow).map (·.cl)).length ((fast ++ slow).map (·.cl))
  | none => []
theorem sortD_len : ∀ (n : Nat) (xs : List Rat), (sortD n xs).length ≤ n
  | 0, _ => Nat.le_refl _
  | n + 1, [] => Nat.zero_le _
  | n + 1, x :: xs => by
    show (sortD n _).length + 1 ≤ n + 1
    exact Nat.succ_le_succ (sortD_len n _)
theorem spec_moments (N : SegK K) (d : DOk D) {fast slow : List Seg} (hf : LaneOk D fast) (hs : LaneOk D slow) {s0 : Seg} (h0 : fast[0]? = some s0) : Spec2 (sp_moments_of K) (tLs (tSeg K)) (tLs (tSeg K)) (tLs (tFr K)) fast slow (momentsOf fast slow) := by
  intro G H v w Q E sm r1 r2 k
  have lf := hf.len
  have ls := hs.len
  have all : ∀ s ∈ fast ++ slow, SegOk D s := fun s hm => (List.mem_append.mp hm).elim (hf.seg s) (hs.seg s)
  generalize hall : (fast ++ slow).map (·.cl) = cs at *
  have hcs : ∀ c ∈ cs, Sm c := fun c hc => by
    rw [← hall] at hc
    obtain ⟨s, hm, rfl⟩ := List.mem_map.mp hc
    exact d.sm (all s hm).cl (by decide)
  have lcs : cs.length ≤ 2000 := by rw [← hall, List.length_map, List.length_append]; omega
  have em : momentsOf fast slow = s0.op :: sortD cs.length cs := by
    unfold momentsOf
    rw [h0, hall]
  refine ⟨rfl, q_parM (M := NoM) (T := tLs (tFr K)) (x := cs) (ys := [s0.op]) ((ev_lcm (f := fun s : Seg => s.cl) (T := tSeg K) (S := tFr K) (ev_cat (by rw [sizeLine_eq]; omega) (ev_var rfl r1) (ev_var rfl r2)) (by rw [List.length_append]; omega) (fun x => rfl) fun s u G1 H1 hm g1 ru => ev_closing N (ev_var rfl ru)).is hall)
    (em_lst1 (ev_opening (s := s0) N (ev_ix (j := 0) rfl h0 (ev_var rfl r1) ev_int))) sm fun v1 p vs G1 H1 g1 q1 hp hg1 hl1 f1 => ?_⟩
  refine q_while (fun m σ G' H' => ∃ (u5 u6 : Option V) (w4 : Option V) (v2 : V) (ls : List Rat) (ws : List V) (done : List Rat), σ = [some v, some w, some v2, some (.ref p), w4, u5, u6] ∧ Grow NoM G H G' H' ∧ (tLs (tFr K)).rel ls v2 G' ∧ G' p = none ∧ H' p = some (.lst ws) ∧ Fits (tFr K) ws (s0.op :: done) G' ∧
    done ++ sortD ls.length ls = sortD cs.length cs ∧ (∀ c ∈ ls, Sm c) ∧ ls.length = m ∧ done.length + m ≤ 2000) cs.length ⟨none, none, none, v1, cs, vs, [], rfl, g1, q1, hg1, hl1, f1, rfl, hcs, rfl, by simpa using lcs⟩ ?_
  rintro m σ G2 H2 ⟨u5, u6, w4, v2, ls, ws, done, rfl, g2, q2, hg2, hl2, f2, hd, hsm, rfl, hlen⟩
  refine ⟨g2.s, _, eb_test (ev_neD (datLs datFr) (by show (2 : Nat) ≤ 64; decide) (y := ([] : List Rat)) (ev_var rfl q2) ev_nilL), fun hb G3 H3 g3 => ?_, fun hb G3 H3 g3 => ?_⟩
  · cases hls : ls with
    | nil => rw [hls] at hb; cases hb
    | cons x xs =>
      have q3 := (tLs (tFr K)).mono g3.g q2
      have hsm' : ∀ c ∈ x :: xs, Sm c := by rw [← hls]; exact hsm
      refine q_asg (M := NoM) (T := tFr K) (x := x) (ev_ix (j := 0) rfl (by rw [hls]; rfl) (ev_var rfl q3) ev_int) g3.s fun v4 G4 H4 g4 q4 => ?_
      refine q_for (M := NoM) (T := tFr K) (xs := ls) (ev_var rfl ((tLs _).mono g4.g q3)) g4.s (fun i σ G' H' => ∃ v4 u5, σ = [some v, some w, some v2, some (.ref p), some v4, u5, u6] ∧ Grow NoM G4 H4 G' H' ∧ (tFr K).rel (leastOf x (ls.take i)) v4 G')
        (fun G5 H5 g5 => ⟨v4, u5, rfl, g5, (tFr K).mono g5.g q4⟩) (fun i σ G' H' ⟨_, _, _, g, _⟩ => g.s) ?_ ?_
      · rintro G0 i y u σ G' H' s0' hi ⟨v4', u5', rfl, g5, q5⟩ ru
        have hy : Sm y := hsm y (List.mem_of_getElem? hi)
        have hle : Sm (leastOf x (ls.take i)) := least_sm (hsm' x List.mem_cons_self) fun z hz => hsm z (List.mem_of_mem_take hz)
        refine s_asg (M := NoM) (ev_if (eb_B (ev_call2 (spec_less hy hle) (ev_var rfl ru) (ev_var rfl q5))) (fun _ => ev_var rfl ru) (fun _ => ev_var rfl q5)) g5.s fun v5 G6 H6 g6 q6 => ?_
        refine ⟨G6, s0'.trans g6.g, v5, some u, rfl, g5.trans g6, ?_⟩
        rw [List.take_add_one, hi]
        show (tFr K).rel (leastOf x (ls.take i ++ [y])) v5 G6
        unfold leastOf at q6 ⊢
        rw [List.foldl_append]
        exact q6
      · rintro σ G' H' ⟨v4', u5', rfl, g5, q5⟩
        rw [List.take_length] at q5
        have gg : Grow NoM G2 H2 G' H' := (g3.trans g4).trans g5
        have e' : H' p = some (.lst ws) := gg.hh p _ hl2
        have fG' : Fits (tFr K) ws (s0.op :: done) G' := f2.mono gg.g
        have gp : G' p = none := gg.n p hg2 (ne_none_of hl2)
        have lw : ws.length = done.length + 1 := by rw [f2.length]; rfl
        refine q_app (M := NoM) (T := tFr K) (l := p) e' (by rw [lw, sizeLine_eq]; omega) (ev_var rfl rfl) (ev_var rfl q5) g5.s fun v6 G7 H7 g7 q7 e7 => ?_
        have gp7 : G7 p = none := g7.n p gp (ne_none_of e')
        have g8 : Grow NoM G H G7 (upd H7 p (.lst (ws ++ [v6]))) := ((g2.trans gg).trans g7).mut hp gp7
        have q2' := (tLs (tFr K)).mono (gg.g.trans g7.g) q2
        refine s_asg (M := NoM) (T := tLs (tFr K)) (x := ls.filter fun m => !decide (m = leastOf x ls)) ((ev_lc (p := fun m => !decide (m = leastOf x ls)) (f := fun c : Rat => c) (T := tFr K) (S := tFr K) (ev_var rfl q2') (by omega) (fun x => rfl) (fun y u G9 H9 hy g9 ru => eb_test (ev_neD datFr (by show (1 : Nat) ≤ 64; decide) (ev_var rfl ru) (ev_var rfl ((tFr K).mono (g7.g.trans g9.g) q5)))) (fun y u G9 H9 hy _ g9 ru => ev_var rfl ru)).is (List.map_id' _)) g8.s fun v9 G9 H9 g9 q9 => ?_
        have hls2 : leastOf x ls = leastOf x (x :: xs) := by rw [hls]
        have lt : (ls.filter fun m => !decide (m = leastOf x ls)).length < ls.length := by
          rw [hls2, hls]
          exact filter_lt
        refine ⟨(ls.filter fun m => !decide (m = leastOf x ls)).length, G9, (by rw [← hls]; exact lt), u5', u6, some v4', v9, _, ws ++ [v6], done ++ [leastOf x ls], rfl, g8.trans g9, q9, g9.n p gp7 (by rw [upd_same]; exact fun z => by cases z), g9.hh p _ upd_same, ((fG'.mono (g7.g.trans g9.g)).append (Fits.one ((tFr K).mono g9.g q7))), ?_, fun c hc => hsm c (List.mem_filter.mp hc).1, rfl, ?_⟩
        · rw [← hd, List.append_assoc]
          congr 1
          have e1 : sortD ls.length ls = leastOf x (x :: xs) :: sortD xs.length ((x :: xs).filter fun m => !decide (m = leastOf x (x :: xs))) := by rw [hls]; rfl
          rw [e1, hls2, hls]
          show _ :: _ = _ :: _
          congr 1
          refine sortD_ext _ _ _ (Nat.le_refl _) ?_
          have := filter_lt (x := x) (xs := xs)
          simp only [List.length_cons] at this
          omega
        · rw [List.length_append, List.length_singleton]
          omega
  · have hls : ls = [] := by simpa using hb
    subst hls
    have hd' : done = sortD cs.length cs := by rw [← hd]; exact (List.append_nil _).symm
    have gp3 : G3 p = none := g3.n p hg2 (ne_none_of hl2)
    have e3 : H3 p = some (.lst ws) := g3.hh p _ hl2
    have g4 : Grow NoM G H (upd G3 p (.lst ws)) H3 := (g2.trans g3).freeze hp gp3 e3
    rw [em, ← hd'] at k
    exact s_ret (M := NoM) (T := tVal) (x := .ref p) (ev_var rfl rfl) g4.s fun u G5 H5 g5 q5 => by
      cases q5
      exact k _ G5 H5 (g4.trans g5) ⟨p, ws, rfl, g5.g p _ upd_same, f2.mono ((g3.g.trans (same_upd gp3)).trans g5.g)⟩
end
end My

/-! The switch, the lane taken, the order. -/
namespace My
open PySem PySem.Spec PyProof.Rows L2
open He (ga ma)
def swGo (fast slow : List Seg) (z : Rat) : List (Rat × Rat) → Rat → Rat
  | [], _ => z
  | (f, l) :: r, lack =>
    if decide ((rateAt fast f - rateAt slow f) * (l - f) < lack) then swGo fast slow z r (lack - (rateAt fast f - rateAt slow f) * (l - f)) else f + lack / (rateAt fast f - rateAt slow f)
def switchM (fast slow : List Seg) (amount : Rat) : Rat :=
  let ms := momentsOf fast slow
  swGo fast slow (ms.getD (ms.length - 1) 0) (ms.zip (ms.drop 1)) (amount - capOf slow)
def slowestL (lanes : List (List Seg)) (amount : Rat) : Option Nat := (List.range lanes.length).foldl (fun o i => if !decide (capOf (lanes.getD i []) < amount) then some i else o) none
theorem rateAt_nat {D : Nat} {lane : List Seg} (h : ∀ s ∈ lane, SegOk D s) (t : Rat) : ∃ r : Nat, rateAt lane t = (r : Rat) ∧ r ≤ 2 ^ 64 := by
  unfold rateAt
  cases e : lane.find? fun s => decide (t < s.cl) with
  | none => exact ⟨0, rfl, Nat.zero_le _⟩
  | some s => exact (h s (List.mem_of_find?_eq_some e)).rate
theorem Gr.zmul {D b : Nat} {q : Rat} (r : Int) {m : Nat} (hm : r.natAbs ≤ m) (k : Gr D b q) : Gr D (m * b) ((r : Rat) * q) := by
  obtain ⟨n, e, l⟩ := k
  refine ⟨r * n, ?_, ?_⟩
  · rw [Rat.intCast_mul, ← e]
    grind
  · rw [Int.natAbs_mul]
    exact Nat.mul_le_mul hm l
section
variable {K : PySem.W.Frag} {D : Nat}
theorem spec_switch (N : SegK K) (d : DOk D) {fast slow : List Seg} {amount : Rat} (hf : LaneOk D fast) (hs : LaneOk D slow) {s0 : Seg} (h0 : fast[0]? = some s0) (ha : Gr D (2 ^ 3300) amount) (hpos : capOf slow < amount)
    (hms : ∀ m ∈ momentsOf fast slow, Gr D (2 ^ 3200) m) (hasc : ∀ (i : Nat) (x y : Rat), (momentsOf fast slow)[i]? = some x → ((momentsOf fast slow).drop 1)[i]? = some y → x < y) :
    Spec3 (sp_switch_moment K) (tLs (tSeg K)) (tLs (tSeg K)) (tFr K) (tFr K) fast slow amount (switchM fast slow amount) := by
  intro G H v w r Q E sm r1 r2 r3 k
  have lf := hf.len
  have ls := hs.len
  have hcap : Gr D (2 ^ 3300) (capOf slow) := cap_sm hs.seg hs.len
  have e0 : momentsOf fast slow = s0.op :: sortD ((fast ++ slow).map (·.cl)).length ((fast ++ slow).map (·.cl)) := by unfold momentsOf; rw [h0]
  have lms : (momentsOf fast slow).length ≤ 2001 := by
    rw [e0, List.length_cons]
    have := sortD_len ((fast ++ slow).map (·.cl)).length ((fast ++ slow).map (·.cl))
    rw [List.length_map, List.length_append] at this ⊢
    omega
  have lpos : 0 < (momentsOf fast slow).length := by rw [e0]; exact Nat.succ_pos _
  have esw : switchM fast slow amount = swGo fast slow ((momentsOf fast slow).getD ((momentsOf fast slow).length - 1) 0) ((momentsOf fast slow).zip ((momentsOf fast slow).drop 1)) (amount - capOf slow) := rfl
  rw [esw] at k
  refine ⟨rfl, q_par (M := NoM) (T := tFr K) (S := tLs (tFr K)) (ev_call2 (spec_minus (d.sm ha (by decide)) (d.sm hcap (by decide))) (ev_var rfl r3) (ev_call1 (spec_capacity N d hs) (ev_var rfl r2))) (ev_call2 (spec_moments N d hf hs h0) (ev_var rfl r1) (ev_var rfl r2)) sm fun v3 v4 G1 H1 g1 q3 q4 => ?_⟩
  generalize hmm : momentsOf fast slow = ms at *
  have r1' := (tLs (tSeg K)).mono g1.g r1
  have r2' := (tLs (tSeg K)).mono g1.g r2
  refine q_zip (M := NoM) (T := tFr K) (S := tFr K) (xs := ms) (ys := ms.drop 1) (ev_var rfl q4) ((ev_slice (ev_var rfl q4) (eo_part ev_int) eo_no).is (cut_from (k := 1))) (by rw [List.length_drop]; omega) g1.s
    (fun i σ G' H' => ∃ lack v3 u5 u6 u7 u8, σ = [some v, some w, some r, some v3, some v4, u5, u6, u7, u8] ∧ Grow NoM G1 H1 G' H' ∧ (tFr K).rel lack v3 G' ∧ Gr D (2 ^ 3302 + i * 2 ^ 3300) lack ∧ 0 < lack ∧
      swGo fast slow (ms.getD (ms.length - 1) 0) ((ms.zip (ms.drop 1)).drop i) lack = swGo fast slow (ms.getD (ms.length - 1) 0) (ms.zip (ms.drop 1)) (amount - capOf slow)) (fun G2 H2 g2 => ⟨_, v3, none, none, none, none, rfl, g2, (tFr K).mono g2.g q3, (ha.sub hcap).mono (by decide), by grind, rfl⟩) (fun i σ G' H' ⟨_, _, _, _, _, _, _, g, _⟩ => g.s) ?_ ?_
  · rintro G0 i f l vf vl σ G' H' G2 H2 s0' hf1 hl1 ⟨lack, v3, u5, u6, u7, u8, rfl, g, q, hb, hp, hsw⟩ g2 rf rl
    have hi : i < 2001 := by have := (List.getElem?_eq_some_iff.mp hf1).1; omega
    have fms : Gr D (2 ^ 3200) f := hms f (List.mem_of_getElem? hf1)
    have lms' : Gr D (2 ^ 3200) l := hms l (List.mem_of_mem_drop (List.mem_of_getElem? hl1))
    have hfl : f < l := hasc i f l hf1 hl1
    obtain ⟨a, ea, la⟩ := rateAt_nat hf.seg f
    obtain ⟨b, eb, lb⟩ := rateAt_nat hs.seg f
    have sf : Sm f := d.sm fms (by decide)
    have smore : Sm (rateAt fast f - rateAt slow f) := by
      rw [ea, eb]
      exact d.sm (((Gr.nat D a).sub (Gr.nat D b)).mono (b := 2 ^ 3100) (by
        have : a * D + b * D ≤ 2 ^ 64 * 2 ^ 3000 + 2 ^ 64 * 2 ^ 3000 := Nat.add_le_add (Nat.mul_le_mul la (Nat.le_of_lt d.lt)) (Nat.mul_le_mul lb (Nat.le_of_lt d.lt))
        exact Nat.le_trans this (by decide))) (by decide)
    have ggain : Gr D (2 ^ 3300) ((rateAt fast f - rateAt slow f) * (l - f)) := by
      have e : rateAt fast f - rateAt slow f = (((a : Int) - (b : Int) : Int) : Rat) := by rw [ea, eb, Rat.intCast_sub, Rat.intCast_natCast, Rat.intCast_natCast]
      rw [e]
      exact (Gr.zmul _ (m := 2 ^ 64) (by omega) (lms'.sub fms)).mono (by decide)
    have gg := g.trans g2
    have b1 : 2 ^ 3302 + i * 2 ^ 3300 ≤ 2 ^ 3900 := Nat.le_trans (Nat.add_le_add_left (Nat.mul_le_mul_right _ (Nat.le_of_lt hi)) _) (by decide)
    have slack : Sm lack := d.sm hb b1
    refine q_asg (M := NoM) (T := tFr K) (ev_call2 (spec_minus (by rw [ea]; exact sm_nat (Nat.le_trans la (by decide))) (by rw [eb]; exact sm_nat (Nat.le_trans lb (by decide)))) (ev_call2 (spec_rate N d hf.seg sf) (ev_var rfl ((tLs (tSeg K)).mono gg.g r1')) (ev_var rfl rf)) (ev_call2 (spec_rate N d hs.seg sf) (ev_var rfl ((tLs (tSeg K)).mono gg.g r2')) (ev_var rfl rf))) g2.s fun v7 G3 H3 g3 q7 => ?_
    refine q_asg (M := NoM) (T := tFr K) (ev_call2 (spec_times smore (d.sm (lms'.sub fms) (by decide))) (ev_var rfl q7) (ev_call2 (spec_minus (d.sm lms' (by decide)) sf) (ev_var rfl ((tFr K).mono g3.g rl)) (ev_var rfl ((tFr K).mono g3.g rf)))) g3.s fun v8 G4 H4 g4 q8 => ?_
    have g24 := g2.trans (g3.trans g4)
    have hz : (ms.zip (ms.drop 1)).drop i = (f, l) :: (ms.zip (ms.drop 1)).drop (i + 1) := by
      have hlt : i < (ms.zip (ms.drop 1)).length := by
        rw [List.length_zip]
        have h1 := (List.getElem?_eq_some_iff.mp hf1).1
        have h2 := (List.getElem?_eq_some_iff.mp hl1).1
        omega
      rw [List.drop_eq_getElem_cons hlt, List.getElem_zip, (List.getElem?_eq_some_iff.mp hf1).2, (List.getElem?_eq_some_iff.mp hl1).2]
    rw [hz] at hsw
    refine q_when (M := NoM) (eb_not (eb_B (ev_call2 (spec_less (d.sm ggain (by decide)) slack) (ev_var rfl q8) (ev_var rfl ((tFr K).mono g24.g q))))) g4.s (fun hc G5 H5 g5 => ?_) fun hc G5 H5 g5 => ?_
    · have hge : ¬ (rateAt fast f - rateAt slow f) * (l - f) < lack := by simpa using hc
      have hm : 0 < rateAt fast f - rateAt slow f := by
        have h1 : 0 < (rateAt fast f - rateAt slow f) * (l - f) := by grind
        have h2 : 0 < l - f := by grind
        exact Rat.not_le.mp fun h3 => by
          have := Rat.mul_le_mul_of_nonneg_right h3 (Rat.le_of_lt h2)
          grind
      have e : swGo fast slow (ms.getD (ms.length - 1) 0) ((f, l) :: (ms.zip (ms.drop 1)).drop (i + 1)) lack = f + lack / (rateAt fast f - rateAt slow f) := by
        show (if _ then _ else _) = _
        rw [if_neg (by simpa using hge)]
      rw [← hsw, e] at k
      have sdiv : Sm (lack / (rateAt fast f - rateAt slow f)) := by
        have hba : b < a := by
          rw [ea, eb] at hm
          have : (b : Rat) < (a : Rat) := by grind
          exact Rat.natCast_lt_natCast.mp this
        obtain ⟨n, en, ln⟩ := hb
        have gd : Gr (D * (a - b)) (2 ^ 3302 + i * 2 ^ 3300) (lack / (rateAt fast f - rateAt slow f)) := by
          refine ⟨n, ?_, ln⟩
          have e2 : ((a - b : Nat) : Rat) = rateAt fast f - rateAt slow f := by
            rw [ea, eb]
            have : ((a - b : Nat) : Rat) + (b : Rat) = (a : Rat) := by rw [← Rat.natCast_add, Nat.sub_add_cancel (Nat.le_of_lt hba)]
            grind
          rw [Rat.natCast_mul, e2, ← en]
          have : rateAt fast f - rateAt slow f ≠ 0 := by grind
          grind
        refine gd.sm (Nat.mul_ne_zero d.pos (by omega)) ?_ (Nat.lt_of_le_of_lt b1 (by decide))
        exact Nat.lt_of_le_of_lt (Nat.mul_le_mul (Nat.le_of_lt d.lt) (Nat.le_trans (Nat.sub_le a b) la)) (by decide)
      refine s_ret (M := NoM) (ev_call2 (spec_plus sf sdiv) (ev_var rfl ((tFr K).mono (g3.trans (g4.trans g5)).g rf)) (ev_call2 (spec_divided slack smore hm) (ev_var rfl ((tFr K).mono (g24.trans g5).g q)) (ev_var rfl ((tFr K).mono (g4.trans g5).g q7)))) g5.s fun u G6 H6 g6 q6 => k u G6 H6 (((g1.trans g).trans (g24.trans g5)).trans g6) q6
    · have hlt : (rateAt fast f - rateAt slow f) * (l - f) < lack := by simpa using hc
      refine s_asg (M := NoM) (T := tFr K) (ev_call2 (spec_minus slack (d.sm ggain (by decide))) (ev_var rfl ((tFr K).mono (g24.trans g5).g q)) (ev_var rfl ((tFr K).mono g5.g q8))) g5.s fun v9 G6 H6 g6 q6 => ?_
      refine ⟨G6, s0'.trans ((g3.trans g4).trans (g5.trans g6)).g, _, v9, some vf, some vl, some v7, some v8, rfl, g.trans (g24.trans (g5.trans g6)), q6, ?_, by grind, ?_⟩
      · refine (hb.sub ggain).mono ?_
        rw [Nat.add_mul, Nat.one_mul, Nat.add_assoc]
        exact Nat.le_refl _
      · rw [← hsw]
        show _ = (if _ then _ else _)
        rw [if_pos (by simpa using hlt)]
  · rintro σ G' H' ⟨lack, v3, u5, u6, u7, u8, rfl, g, q, hb, hp, hsw⟩
    have hl : ms[ms.length - 1]? = some (ms.getD (ms.length - 1) 0) := by
      rw [List.getD_eq_getElem?_getD, List.getElem?_eq_getElem (by omega)]
      rfl
    have hnil : (ms.zip (ms.drop 1)).drop (ms.drop 1).length = [] := List.drop_eq_nil_of_le (by rw [List.length_zip, List.length_drop]; omega)
    rw [hnil] at hsw
    rw [← hsw] at k
    exact s_ret (M := NoM) (T := tFr K) (ev_last hl (ev_var rfl ((tLs (tFr K)).mono g.g q4))) g.s fun u G3 H3 g3 q3 => k u G3 H3 ((g1.trans g).trans g3) q3
def tOptNat : Ty (Option Nat) := tOpt tNat
theorem spec_slowest (N : SegK K) (d : DOk D) {lanes : List (List Seg)} {amount : Rat} (h : ∀ l ∈ lanes, LaneOk D l) (ha : Sm amount) : Spec2 (sp_slowest_lane K) (tLs (tLs (tSeg K))) (tFr K) (tOpt tNat) lanes amount (slowestL lanes amount) := by
  intro G H v w Q E sm r1 r2 k
  refine ⟨rfl, q_asg (M := NoM) (T := tOpt tNat) (x := none) ev_none sm fun v2 G1 H1 g1 q1 => ?_⟩
  refine q_enum (M := NoM) (T := tLs (tSeg K)) (xs := lanes) (ev_var rfl ((tLs (tLs (tSeg K))).mono g1.g r1)) g1.s (fun i σ G' H' => ∃ v2 u3 u4, σ = [some v, some w, some v2, u3, u4] ∧ Grow NoM G H G' H' ∧ (tOpt tNat).rel ((List.range i).foldl (fun o i => if !decide (capOf (lanes.getD i []) < amount) then some i else o) none) v2 G')
    (fun G2 H2 g2 => ⟨v2, none, none, rfl, g1.trans g2, (tOpt tNat).mono g2.g q1⟩) (fun i σ G' H' ⟨_, _, _, _, g, _⟩ => g.s) ?_ ?_
  · rintro G0 i l u σ G' H' G2 H2 s0 hi ⟨v2, u3, u4, rfl, g, q⟩ g2 ru
    have hl : l ∈ lanes := List.mem_of_getElem? hi
    have el : lanes.getD i [] = l := by rw [List.getD_eq_getElem?_getD, hi]; rfl
    have gcap := cap_sm (h l hl).seg (h l hl).len
    refine s_when (M := NoM) (eb_not (eb_B (ev_call2 (spec_less (d.sm gcap (by decide)) ha) (ev_call1 (spec_capacity N d (h l hl)) (ev_var rfl ru)) (ev_var rfl ((tFr K).mono (g.trans g2).g r2))))) g2.s (fun hb G3 H3 g3 => ?_) fun hb G3 H3 g3 => ?_
    · refine s_asg (M := NoM) (T := tOpt tNat) (x := some i) (ev_var (v := V.int (i : Int)) rfl ⟨(fun z => by cases z), rfl⟩) g3.s fun v5 G4 H4 g4 q4 => ?_
      refine ⟨G4, s0.trans (g3.trans g4).g, v5, some _, some u, rfl, (g.trans g2).trans (g3.trans g4), ?_⟩
      rw [List.range_succ, List.foldl_append, List.foldl_cons, List.foldl_nil, el, if_pos hb]
      exact q4
    · refine ⟨G3, s0.trans g3.g, v2, some _, some u, rfl, (g.trans g2).trans g3, ?_⟩
      rw [List.range_succ, List.foldl_append, List.foldl_cons, List.foldl_nil, el, if_neg (by rw [hb]; decide)]
      exact (tOpt tNat).mono (g2.trans g3).g q
  · rintro σ G' H' ⟨v2, u3, u4, rfl, g, q⟩
    exact s_ret (M := NoM) (T := tOpt tNat) (ev_var rfl q) g.s fun u G3 H3 g3 q3 => k u G3 H3 (g.trans g3) q3
end
end My

/-! The order. -/
namespace My
open PySem PySem.Spec PyProof.Rows L2
open He (ga ma)
/-- where the value goes -/
def insAt (values : List Rat) (order : List Nat) (v : Rat) : Nat → Nat
  | 0 => 0
  | p + 1 => if decide (values.getD (order.getD p 0) 0 < v) then insAt values order v p else p + 1
def insL (values : List Rat) (order : List Nat) (i : Nat) : List Nat :=
  let v := values.getD i 0
  let p := insAt values order v order.length
  if decide (0 < v) then order.take p ++ [i] ++ order.drop p else order
def descL (values : List Rat) : List Nat := (List.range values.length).foldl (insL values) []
theorem insAt_le (values : List Rat) (order : List Nat) (v : Rat) : ∀ n, insAt values order v n ≤ n
  | 0 => Nat.le_refl _
  | n + 1 => by
    unfold insAt
    split
    · exact Nat.le_succ_of_le (insAt_le values order v n)
    · exact Nat.le_refl _
theorem insL_mem {values : List Rat} {order : List Nat} {i : Nat} (h : ∀ j ∈ order, j < i) : ∀ j ∈ insL values order i, j < i + 1 := by
  intro j hj
  unfold insL at hj
  simp only at hj
  split at hj
  · rcases List.mem_append.mp hj with hj | hj
    · rcases List.mem_append.mp hj with hj | hj
      · exact Nat.lt_succ_of_lt (h j (List.mem_of_mem_take hj))
      · have : j = i := by simpa using hj
        omega
    · exact Nat.lt_succ_of_lt (h j (List.mem_of_mem_drop hj))
  · exact Nat.lt_succ_of_lt (h j hj)
theorem insL_len {values : List Rat} {order : List Nat} {i : Nat} : (insL values order i).length ≤ order.length + 1 := by
  unfold insL
  simp only
  split
  · simp only [List.length_append, List.length_take, List.length_singleton, List.length_drop]
    omega
  · exact Nat.le_succ _
theorem descP (values : List Rat) : ∀ n, (∀ j ∈ (List.range n).foldl (insL values) [], j < n) ∧ ((List.range n).foldl (insL values) []).length ≤ n
  | 0 => ⟨fun j hj => by simp at hj, Nat.le_refl _⟩
  | n + 1 => by
    have ih := descP values n
    rw [List.range_succ, List.foldl_append]
    exact ⟨insL_mem ih.1, Nat.le_trans insL_len (Nat.succ_le_succ ih.2)⟩
section
variable {K : PySem.W.Frag}
theorem spec_desc (N : SegK K) {values : List Rat} (hv : ∀ q ∈ values, Sm q) (hl : values.length ≤ 1000) : Spec1 (sp_descending K) (tLs (tFr K)) (tLs tNat) values (descL values) := by
  intro G H v Q E sm r1 k
  refine ⟨rfl, q_asgM (M := NoM) (T := tNat) (xs := []) em_nil sm fun l ws0 G1 H1 g1 hl0 hg1 hl1 f1 => ?_⟩
  refine q_enum (M := NoM) (T := tFr K) (xs := values) (ev_var rfl ((tLs _).mono g1.g r1)) g1.s (fun i σ G' H' => ∃ ws u2 u3 u4, σ = [some v, some (.ref l), u2, u3, u4] ∧ Grow NoM G H G' H' ∧ G' l = none ∧ H' l = some (.lst ws) ∧ Fits tNat ws ((List.range i).foldl (insL values) []) G')
    (fun G2 H2 g2 => ⟨ws0, none, none, none, rfl, g1.trans g2, g2.n l hg1 (ne_none_of hl1), g2.hh l _ hl1, f1.mono g2.g⟩) (fun i σ G' H' ⟨_, _, _, _, _, g, _⟩ => g.s) ?_ ?_
  · rintro G0 i q vq σ G' H' G2 H2 s0 hi ⟨ws, u2, u3, u4, rfl, g, hgl, hhl, ff⟩ g2 rq
    have hiv : i < values.length := (List.getElem?_eq_some_iff.mp hi).1
    have eq : values.getD i 0 = q := by rw [List.getD_eq_getElem?_getD, hi]; rfl
    have hq : Sm q := hv q (List.mem_of_getElem? hi)
    generalize hord : (List.range i).foldl (insL values) [] = order at ff
    have hlt : ∀ j ∈ order, j < i := by rw [← hord]; exact (descP values i).1
    have hlen : order.length ≤ i := by rw [← hord]; exact (descP values i).2
    have lws : ws.length = order.length := ff.length
    have hl2 : H2 l = some (.lst ws) := g2.hh l _ hhl
    refine q_asg (M := NoM) (T := tInt) (ev_lenM (l := l) (vs := ws) (fun z => z) hl2 (ev_var rfl rfl)) g2.s fun v4 G3 H3 g3 q4 => ?_
    cases q4
    have gg3 := g2.trans g3
    refine q_while (fun m σ G' H' => σ = [some v, some (.ref l), some (.int (i : Int)), some vq, some (.int (m : Int))] ∧ Grow NoM G3 H3 G' H' ∧ m ≤ order.length ∧ insAt values order q m = insAt values order q order.length) order.length ⟨by rw [lws]; rfl, Grow.refl g3.s, Nat.le_refl _, rfl⟩ ?_
    rintro m σ G4 H4 ⟨rfl, g4, hm, hins⟩
    have hl4 : H4 l = some (.lst ws) := g4.hh l _ (g3.hh l _ hl2)
    have f4 : Fits tNat ws order G4 := ff.mono (gg3.trans g4).g
    refine ⟨g4.s, ?_⟩
    cases m with
    | zero =>
      refine ⟨false, (eb_and (eb_test (ev_gt (i := ((0 : Nat) : Int)) (ev_var rfl rfl) ev_int)) (b := false) (fun h => by simp at h)).is (by simp), fun h => (by cases h), fun _ G5 H5 g5 => ?_⟩
      have gg5 := (gg3.trans g4).trans g5
      refine s_when (M := NoM) (eb_B (ev_call2 (spec_less sm_zero hq) (ev_zero N) (ev_var rfl ((tFr K).mono ((g3.trans g4).trans g5).g rq)))) g5.s (fun hb G6 H6 g6 => ?_) fun hb G6 H6 g6 => ?_
      · have hl6 : H6 l = some (.lst ws) := g6.hh l _ (g5.hh l _ hl4)
        have hg6 : G6 l = none := (gg5.trans g6).n l hgl (ne_none_of hhl)
        refine s_ins (T := tNat) (x := i) (j := 0) hl6 (by rw [lws, sizeLine_eq]; omega) (by decide) (ev_var rfl rfl) (ev_var rfl rfl) (ev_var rfl rfl) g6.s fun u G7 H7 g7 r7 e7 => ?_
        refine ⟨G7, s0.trans (((g3.trans g4).trans g5).trans (g6.trans g7)).g, _, some _, some vq, some _, rfl, ((g.trans (gg5.trans (g6.trans g7))).mut (hl0) (g7.n l hg6 (ne_none_of hl6))), g7.n l hg6 (ne_none_of hl6), upd_same, ?_⟩
        rw [List.range_succ, List.foldl_append, List.foldl_cons, List.foldl_nil, hord]
        unfold insL
        simp only [eq]
        rw [if_pos hb, ← hins]
        have f7 := f4.mono ((g5.trans g6).trans g7).g
        exact ((f7.take 0).append (Fits.one r7)).append (f7.drop 0)
      · refine ⟨G6, s0.trans (((g3.trans g4).trans g5).trans g6).g, ws, some _, some vq, some _, rfl, g.trans (gg5.trans g6), (gg5.trans g6).n l hgl (ne_none_of hhl), g6.hh l _ (g5.hh l _ hl4), ?_⟩
        rw [List.range_succ, List.foldl_append, List.foldl_cons, List.foldl_nil, hord]
        unfold insL
        simp only [eq]
        rw [if_neg (by rw [hb]; decide)]
        exact f4.mono (g5.trans g6).g
    | succ p =>
      have hp : p < order.length := hm
      have hx : order[p]? = some (order.getD p 0) := by rw [List.getD_eq_getElem?_getD, List.getElem?_eq_getElem hp]; rfl
      generalize ho : order.getD p 0 = o at hx
      have hoi : o < i := hlt o (List.mem_of_getElem? hx)
      have hvo : values[o]? = some (values.getD o 0) := by rw [List.getD_eq_getElem?_getD, List.getElem?_eq_getElem (by omega)]; rfl
      have hso : Sm (values.getD o 0) := hv _ (List.mem_of_getElem? hvo)
      have e1 : ((p + 1 : Nat) : Int) - 1 = (p : Int) := by omega
      have tst : EvB NoM (tAnd (tTest (tOp rGtI (tVar 4) (tC (.int 0)))) (tB (tCall (sp_is_less K) [] E0 (tCons (tOp (rIxL K) (tVar 0) (tOp (rIxL K) (tVar 1) (tOp rSubI (tVar 4) (tC (.int 1))))) (tCons (tVar 3) tNil))))) [some v, some (.ref l), some (.int (i : Int)), some vq, some (.int ((p + 1 : Nat) : Int))] G4 H4 (decide (values.getD o 0 < q)) :=
        (eb_and (eb_test (ev_gt (i := ((p + 1 : Nat) : Int)) (ev_var rfl rfl) ev_int)) fun _ => eb_B (ev_call2 (spec_less hso hq) (ev_ix (i := (o : Int)) (j := o) rfl hvo (ev_var rfl ((tLs _).mono (g.trans (gg3.trans g4)).g r1)) (ev_ixM (T := tNat) (x := o) (l := l) (vs := ws) (xs := order) (i := ((p + 1 : Nat) : Int) - 1) (j := p) (fun z => z) hl4 f4 e1 hx (ev_var rfl rfl) (ev_sub (ev_var rfl rfl) ev_int))) (ev_var rfl ((tFr K).mono (g3.trans g4).g rq)))).is (by
          rw [decide_eq_true (show (0 : Int) < ((p + 1 : Nat) : Int) by omega)]
          rfl)
      have hstep : insAt values order q (p + 1) = if decide (values.getD o 0 < q) then insAt values order q p else p + 1 := by
        show (if decide (values.getD (order.getD p 0) 0 < q) then _ else _) = _
        rw [ho]
      refine ⟨_, tst, fun hb G5 H5 g5 => ?_, fun hb G5 H5 g5 => ?_⟩
      · refine ⟨_, rfl, _, _, rfl, rfl, p, G5, Nat.lt_succ_self _, ?_, g4.trans g5, Nat.le_of_lt hp, ?_⟩
        · show [some v, some (V.ref l), some (V.int (i : Int)), some vq, some (V.int (((p + 1 : Nat) : Int) - 1))] = _
          rw [e1]
        · rw [← hins, hstep, if_pos hb]
      · have gg5 := (gg3.trans g4).trans g5
        refine s_when (M := NoM) (eb_B (ev_call2 (spec_less sm_zero hq) (ev_zero N) (ev_var rfl ((tFr K).mono ((g3.trans g4).trans g5).g rq)))) g5.s (fun hb2 G6 H6 g6 => ?_) fun hb2 G6 H6 g6 => ?_
        · have hl6 : H6 l = some (.lst ws) := g6.hh l _ (g5.hh l _ hl4)
          have hg6 : G6 l = none := (gg5.trans g6).n l hgl (ne_none_of hhl)
          refine s_ins (T := tNat) (x := i) (j := p + 1) hl6 (by rw [lws, sizeLine_eq]; omega) (by omega) (ev_var rfl rfl) (ev_var rfl rfl) (ev_var rfl rfl) g6.s fun u G7 H7 g7 r7 e7 => ?_
          refine ⟨G7, s0.trans (((g3.trans g4).trans g5).trans (g6.trans g7)).g, _, some _, some vq, some _, rfl, ((g.trans (gg5.trans (g6.trans g7))).mut hl0 (g7.n l hg6 (ne_none_of hl6))), g7.n l hg6 (ne_none_of hl6), upd_same, ?_⟩
          rw [List.range_succ, List.foldl_append, List.foldl_cons, List.foldl_nil, hord]
          unfold insL
          simp only [eq]
          rw [if_pos hb2, ← hins, hstep, if_neg (by rw [hb]; decide)]
          have f7 := f4.mono ((g5.trans g6).trans g7).g
          exact ((f7.take (p + 1)).append (Fits.one r7)).append (f7.drop (p + 1))
        · refine ⟨G6, s0.trans (((g3.trans g4).trans g5).trans g6).g, ws, some _, some vq, some _, rfl, g.trans (gg5.trans g6), (gg5.trans g6).n l hgl (ne_none_of hhl), g6.hh l _ (g5.hh l _ hl4), ?_⟩
          rw [List.range_succ, List.foldl_append, List.foldl_cons, List.foldl_nil, hord]
          unfold insL
          simp only [eq]
          rw [if_neg (by rw [hb2]; decide)]
          exact f4.mono (g5.trans g6).g
  · rintro σ G' H' ⟨ws, u2, u3, u4, rfl, g, hgl, hhl, ff⟩
    have g4 : Grow NoM G H (upd G' l (.lst ws)) H' := g.freeze hl0 hgl hhl
    exact s_ret (M := NoM) (T := tVal) (x := .ref l) (ev_var rfl rfl) g4.s fun u G5 H5 g5 q5 => by
      cases q5
      exact k _ G5 H5 (g4.trans g5) ⟨l, ws, rfl, g5.g l _ upd_same, ff.mono ((same_upd hgl).trans g5.g)⟩
end
end My

/-! The mathematics of lanes: capacities of parts, the moments, the switch. -/
namespace My
def rsum : List Rat → Rat
  | [] => 0
  | x :: xs => x + rsum xs
theorem rsum_append (a b : List Rat) : rsum (a ++ b) = rsum a + rsum b := by
  induction a with
  | nil => show rsum b = 0 + rsum b; grind
  | cons x r ih => show x + rsum (r ++ b) = x + rsum r + rsum b; rw [ih]; grind
theorem fold_content (l : List Seg) (a : Rat) : l.foldl (fun a s => a + content s) a = a + rsum (l.map content) := by
  induction l generalizing a with
  | nil => show a = a + 0; grind
  | cons s r ih => rw [List.foldl_cons, ih]; show _ = a + (content s + rsum (r.map content)); grind
theorem capOf_eq (l : List Seg) : capOf l = rsum (l.map content) := by unfold capOf; rw [fold_content]; grind
/-- the length of the part of a segment within f .. l -/
def ov (s : Seg) (f l : Rat) : Rat :=
  let f' := if s.op < f then f else s.op
  let l' := if l < s.cl then l else s.cl
  if f' < l' then l' - f' else 0
def capB (lane : List Seg) (f l : Rat) : Rat := rsum (lane.map fun s => s.rate * ov s f l)
theorem cut_def (s : Seg) (f l : Rat) : cut s f l = if (if s.op < f then f else s.op) < (if l < s.cl then l else s.cl) then some ⟨if s.op < f then f else s.op, if l < s.cl then l else s.cl, s.rate, s.ow⟩ else none := by
  unfold cut
  simp only [decide_eq_true_eq]
theorem cut_some {s x : Seg} {f l : Rat} (h : cut s f l = some x) : x = ⟨if s.op < f then f else s.op, if l < s.cl then l else s.cl, s.rate, s.ow⟩ ∧ (if s.op < f then f else s.op) < (if l < s.cl then l else s.cl) := by
  rw [cut_def] at h
  by_cases c : (if s.op < f then f else s.op) < (if l < s.cl then l else s.cl)
  · rw [if_pos c] at h
    exact ⟨(Option.some.inj h).symm, c⟩
  · rw [if_neg c] at h
    cases h
theorem cut_none {s : Seg} {f l : Rat} (h : cut s f l = none) : ¬ (if s.op < f then f else s.op) < (if l < s.cl then l else s.cl) := fun c => by
  rw [cut_def, if_pos c] at h
  cases h
theorem capOf_laneB (lane : List Seg) (f l : Rat) : capOf (laneB lane f l) = capB lane f l := by
  rw [capOf_eq]
  unfold laneB capB
  induction lane with
  | nil => rfl
  | cons s r ih =>
    rw [List.filterMap_cons]
    cases e : cut s f l with
    | none =>
      have h := cut_none e
      show rsum ((List.filterMap (fun s => cut s f l) r).map content) = s.rate * ov s f l + rsum _
      rw [ih]
      unfold ov
      simp only
      rw [if_neg h]
      grind
    | some x =>
      obtain ⟨rfl, h⟩ := cut_some e
      show content _ + rsum ((List.filterMap (fun s => cut s f l) r).map content) = s.rate * ov s f l + rsum _
      rw [ih]
      unfold ov content
      simp only
      rw [if_pos h]
theorem ov_add (s : Seg) {f m l : Rat} (h1 : f ≤ m) (h2 : m ≤ l) (hs : s.op ≤ s.cl) : ov s f m + ov s m l = ov s f l := by
  unfold ov
  simp only
  grind
theorem capB_add {lane : List Seg} {f m l : Rat} (h1 : f ≤ m) (h2 : m ≤ l) (hs : ∀ s ∈ lane, s.op ≤ s.cl) : capB lane f m + capB lane m l = capB lane f l := by
  unfold capB
  induction lane with
  | nil => show (0 : Rat) + 0 = 0; grind
  | cons s r ih =>
    have e := ov_add s h1 h2 (hs s List.mem_cons_self)
    have q := ih fun x hx => hs x (List.mem_cons_of_mem _ hx)
    show s.rate * ov s f m + rsum _ + (s.rate * ov s m l + rsum _) = s.rate * ov s f l + rsum _
    rw [← e, ← q]
    grind
theorem ov_full (s : Seg) {f l : Rat} (h1 : f ≤ s.op) (h2 : s.cl ≤ l) (hs : s.op ≤ s.cl) : ov s f l = s.cl - s.op := by
  unfold ov
  simp only
  grind
theorem capB_full {lane : List Seg} {f l : Rat} (h : ∀ s ∈ lane, f ≤ s.op ∧ s.op ≤ s.cl ∧ s.cl ≤ l) : capB lane f l = capOf lane := by
  rw [capOf_eq]
  unfold capB content
  congr 1
  refine List.map_congr_left fun s hs => ?_
  obtain ⟨a, b, c⟩ := h s hs
  rw [ov_full s a c b]
/-- segments one behind another from a to b -/
def Chn : Rat → List Seg → Rat → Prop
  | a, [], b => a = b
  | a, s :: r, b => s.op = a ∧ s.op < s.cl ∧ Chn s.cl r b
theorem Chn.le : ∀ {a : Rat} {l : List Seg} {b : Rat}, Chn a l b → a ≤ b
  | a, [], b, h => by rw [show a = b from h]; exact Rat.le_refl
  | a, s :: r, b, ⟨h1, h2, h3⟩ => by have := Chn.le h3; grind
theorem Chn.mem : ∀ {a : Rat} {l : List Seg} {b : Rat}, Chn a l b → ∀ s ∈ l, a ≤ s.op ∧ s.op < s.cl ∧ s.cl ≤ b
  | a, [], b, h, s, hs => by simp at hs
  | a, x :: r, b, ⟨h1, h2, h3⟩, s, hs => by
    have hle := Chn.le h3
    rcases List.mem_cons.mp hs with rfl | hs
    · exact ⟨by grind, h2, hle⟩
    · have := Chn.mem h3 s hs
      grind
theorem Chn.append : ∀ {a b c : Rat} {x y : List Seg}, Chn a x b → Chn b y c → Chn a (x ++ y) c
  | a, b, c, [], y, h, k => by rw [show a = b from h]; exact k
  | a, b, c, s :: r, y, ⟨h1, h2, h3⟩, k => ⟨h1, h2, Chn.append h3 k⟩
theorem ov_out_r (s : Seg) {f l : Rat} (h : l ≤ s.op) (h2 : s.op ≤ s.cl) : ov s f l = 0 := by
  unfold ov
  simp only
  grind
theorem ov_out_l (s : Seg) {f l : Rat} (h : s.cl ≤ f) (h2 : s.op ≤ s.cl) : ov s f l = 0 := by
  unfold ov
  simp only
  grind
theorem capB_zero {lane : List Seg} {f l : Rat} (h : ∀ s ∈ lane, ov s f l = 0) : capB lane f l = 0 := by
  unfold capB
  induction lane with
  | nil => rfl
  | cons s r ih =>
    show s.rate * ov s f l + rsum _ = 0
    rw [h s List.mem_cons_self, ih fun x hx => h x (List.mem_cons_of_mem _ hx)]
    grind
theorem rateAt_cons (s : Seg) (r : List Seg) (t : Rat) : rateAt (s :: r) t = if t < s.cl then s.rate else rateAt r t := by
  unfold rateAt
  rw [List.find?_cons]
  by_cases h : t < s.cl
  · rw [decide_eq_true h, if_pos h]
  · rw [decide_eq_false h, if_neg h]
/-- between two neighbouring moments the rate stays -/
theorem capB_const : ∀ {lane : List Seg} {a b f l : Rat}, Chn a lane b → a ≤ f → f < l → l ≤ b → (∀ s ∈ lane, ¬ (f < s.cl ∧ s.cl < l)) → capB lane f l = rateAt lane f * (l - f)
  | [], a, b, f, l, h, h1, h2, h3, _ => by
    have : a = b := h
    grind
  | s :: r, a, b, f, l, ⟨e, h0, h⟩, h1, h2, h3, hn => by
    show s.rate * ov s f l + capB r f l = _
    rw [rateAt_cons]
    by_cases hc : f < s.cl
    · rw [if_pos hc]
      have hl : l ≤ s.cl := by
        have := hn s List.mem_cons_self
        grind
      have z : capB r f l = 0 := capB_zero fun x hx => by
        have := Chn.mem h x hx
        exact ov_out_r x (by grind) (by grind)
      have o : ov s f l = l - f := by
        unfold ov
        simp only
        grind
      rw [z, o]
      grind
    · rw [if_neg hc, capB_const h (by grind) h2 h3 fun x hx => hn x (List.mem_cons_of_mem _ hx), ov_out_l s (by grind) (by grind)]
      grind
/-! ### the moments -/
def Asc : List Rat → Prop
  | [] => True
  | [_] => True
  | x :: y :: r => x < y ∧ Asc (y :: r)
theorem leastOf_le : ∀ (xs : List Rat) (x : Rat), leastOf x xs ≤ x ∧ ∀ y ∈ xs, leastOf x xs ≤ y
  | [], x => ⟨Rat.le_refl, fun y hy => by simp at hy⟩
  | z :: r, x => by
    have e : leastOf x (z :: r) = leastOf (if decide (z < x) then z else x) r := rfl
    rw [e]
    obtain ⟨h1, h2⟩ := leastOf_le r (if decide (z < x) then z else x)
    have h3 : (if decide (z < x) = true then z else x) ≤ x ∧ (if decide (z < x) = true then z else x) ≤ z := by
      simp only [decide_eq_true_eq]
      grind
    refine ⟨Rat.le_trans h1 h3.1, fun y hy => ?_⟩
    rcases List.mem_cons.mp hy with rfl | hy
    · exact Rat.le_trans h1 h3.2
    · exact h2 y hy
theorem sortD_mem : ∀ (n : Nat) (xs : List Rat), xs.length ≤ n → ∀ y, y ∈ sortD n xs ↔ y ∈ xs
  | 0, xs, h, y => by
    have : xs = [] := by simpa using h
    subst this
    exact Iff.rfl
  | n + 1, [], _, y => Iff.rfl
  | n + 1, x :: xs, h, y => by
    have lt := filter_lt (x := x) (xs := xs)
    have ih := sortD_mem n ((x :: xs).filter fun m => !decide (m = leastOf x (x :: xs))) (by simp only [List.length_cons] at *; omega) y
    show y ∈ leastOf x (x :: xs) :: sortD n _ ↔ _
    rw [List.mem_cons, ih, List.mem_filter]
    have hm : leastOf x (x :: xs) ∈ x :: xs := least_mem List.mem_cons_self
    constructor
    · rintro (rfl | ⟨h1, _⟩)
      · exact hm
      · exact h1
    · intro hy
      by_cases e : y = leastOf x (x :: xs)
      · exact .inl e
      · exact .inr ⟨hy, by simpa using e⟩
theorem asc_cons {x : Rat} {l : List Rat} (h : Asc l) (hx : ∀ y ∈ l, x < y) : Asc (x :: l) := by
  cases l with
  | nil => exact True.intro
  | cons y r => exact ⟨hx y List.mem_cons_self, h⟩
theorem sortD_asc : ∀ (n : Nat) (xs : List Rat), xs.length ≤ n → Asc (sortD n xs)
  | 0, xs, h => True.intro
  | n + 1, [], _ => True.intro
  | n + 1, x :: xs, h => by
    have lt := filter_lt (x := x) (xs := xs)
    have hl : ((x :: xs).filter fun m => !decide (m = leastOf x (x :: xs))).length ≤ n := by simp only [List.length_cons] at *; omega
    refine asc_cons (sortD_asc n _ hl) fun y hy => ?_
    rw [sortD_mem n _ hl, List.mem_filter] at hy
    have h1 := (leastOf_le (x :: xs) x).2 y hy.1
    have h2 : y ≠ leastOf x (x :: xs) := by simpa using hy.2
    grind
theorem Asc.tail {x : Rat} {l : List Rat} (h : Asc (x :: l)) : Asc l := by
  cases l with
  | nil => exact True.intro
  | cons y r => exact h.2
theorem Asc.lt : ∀ {x : Rat} {l : List Rat}, Asc (x :: l) → ∀ y ∈ l, x < y
  | x, [], _, y, hy => by simp at hy
  | x, z :: r, h, y, hy => by
    rcases List.mem_cons.mp hy with rfl | hy
    · exact h.1
    · have := Asc.lt h.2 y hy
      have := h.1
      grind
theorem asc_pairs : ∀ {l : List Rat}, Asc l → ∀ (i : Nat) (x y : Rat), l[i]? = some x → (l.drop 1)[i]? = some y → x < y
  | [], _, i, x, y, h, _ => by simp at h
  | [z], _, i, x, y, h, k => by simp at k
  | a :: b :: r, h, 0, x, y, e, k => by
    simp at e k
    subst e k
    exact h.1
  | a :: b :: r, h, i + 1, x, y, e, k => asc_pairs h.2 i x y (by simpa using e) (by simpa using k)
end My

/-! The switch moment. -/
namespace My
/-- what fast does until s and slow does from s -/
def mixF (fast slow : List Seg) (len s : Rat) : Rat := capB fast 0 s + capB slow s len
structure LanesOk (D : Nat) (len : Rat) (fast slow : List Seg) : Prop where
  cf : Chn 0 fast len
  cs : Chn 0 slow len
  of : ∀ s ∈ fast, SegOk D s
  os : ∀ s ∈ slow, SegOk D s
theorem Chn.opcl {a b : Rat} {l : List Seg} (h : Chn a l b) : ∀ s ∈ l, s.op ≤ s.cl := fun s hs => by
  have := h.mem s hs
  grind
theorem capB_nil (l : List Seg) (a : Rat) (h : ∀ s ∈ l, s.op ≤ s.cl) : capB l a a = 0 := capB_zero fun s hs => by
  have := h s hs
  unfold ov
  simp only
  grind
section
variable {D : Nat} {len : Rat} {fast slow : List Seg}
theorem mix_step (h : LanesOk D len fast slow) {f l : Rat} (h0 : 0 ≤ f) (h1 : f < l) (h2 : l ≤ len) (hn : ∀ s ∈ fast ++ slow, ¬ (f < s.cl ∧ s.cl < l)) : mixF fast slow len l = mixF fast slow len f + (rateAt fast f - rateAt slow f) * (l - f) := by
  have e1 := capB_add (lane := fast) (f := 0) (m := f) (l := l) h0 (by grind) h.cf.opcl
  have e2 := capB_add (lane := slow) (f := f) (m := l) (l := len) (by grind) h2 h.cs.opcl
  have c1 := capB_const h.cf h0 h1 h2 fun s hs => hn s (List.mem_append_left _ hs)
  have c2 := capB_const h.cs h0 h1 h2 fun s hs => hn s (List.mem_append_right _ hs)
  unfold mixF
  grind
theorem mix_zero (h : LanesOk D len fast slow) : mixF fast slow len 0 = capOf slow := by
  unfold mixF
  rw [capB_nil fast 0 h.cf.opcl, capB_full fun s hs => by have := h.cs.mem s hs; grind]
  grind
theorem mix_len (h : LanesOk D len fast slow) : mixF fast slow len len = capOf fast := by
  unfold mixF
  rw [capB_nil slow len h.cs.opcl, capB_full fun s hs => by have := h.cf.mem s hs; grind]
  grind
/-- q is over D -/
def Ovr (D : Nat) (q : Rat) : Prop := ∃ n : Int, q * (D : Rat) = (n : Rat)
theorem Gr.ovr {D b : Nat} {q : Rat} (h : Gr D b q) : Ovr D q := let ⟨n, e, _⟩ := h; ⟨n, e⟩
theorem Ovr.add {p q : Rat} (h : Ovr D p) (k : Ovr D q) : Ovr D (p + q) := by
  obtain ⟨n, e⟩ := h
  obtain ⟨m, f⟩ := k
  exact ⟨n + m, by rw [Rat.intCast_add, ← e, ← f]; grind⟩
theorem Ovr.sub {p q : Rat} (h : Ovr D p) (k : Ovr D q) : Ovr D (p - q) := by
  obtain ⟨n, e⟩ := h
  obtain ⟨m, f⟩ := k
  exact ⟨n - m, by rw [Rat.intCast_sub, ← e, ← f]; grind⟩
theorem Ovr.mul {p q : Rat} {m : Nat} (r : Int) (e : p = (r : Rat)) (k : Ovr D q) : Ovr D (p * q) := by
  obtain ⟨n, f⟩ := k
  exact ⟨r * n, by rw [e, Rat.intCast_mul, ← f]; grind⟩
theorem Ovr.up {q : Rat} {e : Nat} (k : Ovr D q) : Ovr (D * e) q := by
  obtain ⟨n, f⟩ := k
  exact ⟨n * e, by rw [Rat.natCast_mul, Rat.intCast_mul, Rat.intCast_natCast, ← f]; grind⟩
theorem swGo_ok (h : LanesOk D len fast slow) {z amount : Rat} (hamt : amount ≤ capOf fast) :
    ∀ (l : List Rat) (m lack : Rat), Asc (m :: l) → 0 ≤ m → (∀ y ∈ m :: l, y ≤ len) → (m :: l)[l.length]? = some len → (∀ s ∈ fast ++ slow, s.cl ≤ m ∨ s.cl ∈ l) → lack = amount - mixF fast slow len m → 0 < lack →
      (∀ y ∈ m :: l, Ovr D y) → Ovr D lack →
      mixF fast slow len (swGo fast slow z ((m :: l).zip l) lack) = amount ∧ m < swGo fast slow z ((m :: l).zip l) lack ∧ swGo fast slow z ((m :: l).zip l) lack ≤ len ∧ ∃ e : Nat, 0 < e ∧ e ≤ 2 ^ 64 ∧ Ovr (D * e) (swGo fast slow z ((m :: l).zip l) lack)
  | [], m, lack, ha, h0, hle, hlast, hcl, e, hp, hD, hL => by
    have em : m = len := by simpa using hlast
    subst em
    rw [mix_len h] at e
    grind
  | x :: r, m, lack, ha, h0, hle, hlast, hcl, e, hp, hD, hL => by
    have hmx : m < x := ha.1
    have hxl : x ≤ len := hle x (by simp)
    have hn : ∀ t, m < t → t ≤ x → ∀ s ∈ fast ++ slow, ¬ (m < s.cl ∧ s.cl < t) := fun t h1 h2 s hs ⟨k1, k2⟩ => by
      rcases hcl s hs with q | q
      · grind
      · rcases List.mem_cons.mp q with q | q
        · grind
        · have := Asc.lt ha.2 _ q
          grind
    have step := mix_step h h0 hmx hxl (hn x hmx Rat.le_refl)
    obtain ⟨a, ea, la⟩ := rateAt_nat h.of m
    obtain ⟨b, eb, lb⟩ := rateAt_nat h.os m
    have eint : rateAt fast m - rateAt slow m = (((a : Int) - (b : Int) : Int) : Rat) := by rw [ea, eb, Rat.intCast_sub, Rat.intCast_natCast, Rat.intCast_natCast]
    have hgo : swGo fast slow z ((m :: x :: r).zip (x :: r)) lack = if decide ((rateAt fast m - rateAt slow m) * (x - m) < lack) then swGo fast slow z ((x :: r).zip r) (lack - (rateAt fast m - rateAt slow m) * (x - m)) else m + lack / (rateAt fast m - rateAt slow m) := rfl
    rw [hgo]
    by_cases c : (rateAt fast m - rateAt slow m) * (x - m) < lack
    · rw [if_pos (decide_eq_true c)]
      have ih := swGo_ok h (z := z) hamt r x (lack - (rateAt fast m - rateAt slow m) * (x - m)) ha.2 (by grind) (fun y hy => hle y (List.mem_cons_of_mem _ hy)) (by simpa using hlast) (fun s hs => by
        rcases hcl s hs with q | q
        · exact .inl (by grind)
        · rcases List.mem_cons.mp q with q | q
          · exact .inl (by grind)
          · exact .inr q) (by grind) (by grind) (fun y hy => hD y (List.mem_cons_of_mem _ hy)) (hL.sub (Ovr.mul (m := 0) _ eint ((hD x (by simp)).sub (hD m (by simp)))))
      refine ⟨ih.1, by grind, ih.2.2⟩
    · rw [if_neg (by simpa using c)]
      have hm : 0 < rateAt fast m - rateAt slow m := by
        have h2 : 0 < x - m := by grind
        exact Rat.not_le.mp fun h3 => by
          have := Rat.mul_le_mul_of_nonneg_right h3 (Rat.le_of_lt h2)
          grind
      have hne : rateAt fast m - rateAt slow m ≠ 0 := by grind
      have hqm : (rateAt fast m - rateAt slow m) * (lack / (rateAt fast m - rateAt slow m)) = lack := by grind
      have hq : 0 < lack / (rateAt fast m - rateAt slow m) := Rat.not_le.mp fun h3 => by
        have := Rat.mul_le_mul_of_nonneg_left h3 (Rat.le_of_lt hm)
        grind
      have hle2 : lack / (rateAt fast m - rateAt slow m) ≤ x - m := by
        refine Rat.not_lt.mp fun h3 => ?_
        have := Rat.mul_lt_mul_of_pos_left h3 hm
        grind
      have hms : m < m + lack / (rateAt fast m - rateAt slow m) := by grind
      have hsx : m + lack / (rateAt fast m - rateAt slow m) ≤ x := by grind
      have st := mix_step h h0 hms (by grind) (hn _ hms hsx)
      have hba : b < a := by
        rw [ea, eb] at hm
        have : (b : Rat) < (a : Rat) := by grind
        exact Rat.natCast_lt_natCast.mp this
      refine ⟨by grind, hms, by grind, a - b, by omega, by omega, ?_⟩
      have e2 : ((a - b : Nat) : Rat) = rateAt fast m - rateAt slow m := by
        rw [ea, eb]
        have : ((a - b : Nat) : Rat) + (b : Rat) = (a : Rat) := by rw [← Rat.natCast_add, Nat.sub_add_cancel (Nat.le_of_lt hba)]
        grind
      refine Ovr.add ((hD m (by simp)).up) ?_
      obtain ⟨n, en⟩ := hL
      refine ⟨n, ?_⟩
      rw [Rat.natCast_mul, e2, ← en]
      grind
theorem moments_ok (h : LanesOk D len fast slow) (hlen : 0 < len) {s0 : Seg} (h0 : fast[0]? = some s0) : ∃ l, momentsOf fast slow = 0 :: l ∧ Asc (0 :: l) ∧ (∀ y ∈ (0 : Rat) :: l, 0 ≤ y ∧ y ≤ len) ∧ ((0 : Rat) :: l)[l.length]? = some len ∧ (∀ s ∈ fast ++ slow, s.cl ∈ l) ∧ ∀ y ∈ l, ∃ s ∈ fast ++ slow, y = s.cl := by
  have hop : s0.op = 0 := by
    have hc := h.cf
    cases fast with
    | nil => simp at h0
    | cons x r =>
      have : x = s0 := by simpa using h0
      subst this
      exact hc.1
  generalize hcs : (fast ++ slow).map (·.cl) = cs
  have em : momentsOf fast slow = 0 :: sortD cs.length cs := by
    unfold momentsOf
    rw [h0, hcs]
    show s0.op :: _ = _
    rw [hop]
  have all : ∀ s ∈ fast ++ slow, 0 < s.cl ∧ s.cl ≤ len := fun s hs => by
    rcases List.mem_append.mp hs with hs | hs
    · have := h.cf.mem s hs; grind
    · have := h.cs.mem s hs; grind
  have mem : ∀ y, y ∈ sortD cs.length cs ↔ ∃ s ∈ fast ++ slow, y = s.cl := fun y => by
    rw [sortD_mem _ _ (Nat.le_refl _), ← hcs, List.mem_map]
    exact ⟨fun ⟨s, h1, h2⟩ => ⟨s, h1, h2.symm⟩, fun ⟨s, h1, h2⟩ => ⟨s, h1, h2.symm⟩⟩
  have asc : Asc (0 :: sortD cs.length cs) := asc_cons (sortD_asc _ _ (Nat.le_refl _)) fun y hy => by
    obtain ⟨s, hs, rfl⟩ := (mem y).mp hy
    exact (all s hs).1
  have hlast : ∃ s ∈ fast ++ slow, s.cl = len := by
    have key : ∀ (a b : Rat) (l : List Seg), Chn a l b → l ≠ [] → ∃ s ∈ l, s.cl = b := by
      intro a b l
      induction l generalizing a with
      | nil => intro _ h; exact absurd rfl h
      | cons x r ih =>
        intro hc _
        cases r with
        | nil => exact ⟨x, by simp, hc.2.2⟩
        | cons y t =>
          obtain ⟨s, hs, e⟩ := ih x.cl hc.2.2 (by simp)
          exact ⟨s, List.mem_cons_of_mem _ hs, e⟩
    obtain ⟨s, hs, e⟩ := key 0 len fast h.cf (by intro z; subst z; simp at h0)
    exact ⟨s, List.mem_append_left _ hs, e⟩
  refine ⟨_, em, asc, fun y hy => ?_, ?_, fun s hs => (mem _).mpr ⟨s, hs, rfl⟩, fun y hy => (mem y).mp hy⟩
  · rcases List.mem_cons.mp hy with rfl | hy
    · exact ⟨Rat.le_refl, Rat.le_of_lt hlen⟩
    · obtain ⟨s, hs, rfl⟩ := (mem y).mp hy
      exact ⟨Rat.le_of_lt (all s hs).1, (all s hs).2⟩
  · obtain ⟨s, hs, e⟩ := hlast
    have hin : len ∈ sortD cs.length cs := (mem len).mpr ⟨s, hs, e.symm⟩
    have key : ∀ (x : Rat) (l : List Rat), Asc (x :: l) → len ∈ l → (∀ y ∈ l, y ≤ len) → (x :: l)[l.length]? = some len := by
      intro x l
      induction l generalizing x with
      | nil => intro _ h; simp at h
      | cons y r ih =>
        intro ha hm hle
        rcases List.mem_cons.mp hm with e | hm
        · subst e
          cases r with
          | nil => rfl
          | cons w t =>
            have h1 := Asc.lt ha.2 w (by simp)
            have h2 := hle w (by simp)
            grind
        · have := ih y ha.2 hm fun w hw => hle w (List.mem_cons_of_mem _ hw)
          simpa using this
    exact key 0 _ asc hin fun y hy => by
      obtain ⟨s, hs, rfl⟩ := (mem y).mp hy
      exact (all s hs).2
/-- the switch: from slow to fast at a moment, just the amount is done -/
theorem switch_ok (h : LanesOk D len fast slow) (hlen : 0 < len) {s0 : Seg} (h0 : fast[0]? = some s0) {amount : Rat} (h1 : capOf slow < amount) (h2 : amount ≤ capOf fast) (hamt : Ovr D amount) (hcap : Ovr D (capOf slow)) :
    mixF fast slow len (switchM fast slow amount) = amount ∧ 0 < switchM fast slow amount ∧ switchM fast slow amount ≤ len ∧ ∃ e : Nat, 0 < e ∧ e ≤ 2 ^ 64 ∧ Ovr (D * e) (switchM fast slow amount) := by
  obtain ⟨l, em, asc, hle, hlast, hcl, hmem⟩ := moments_ok h hlen h0
  unfold switchM
  rw [em]
  refine swGo_ok h h2 l 0 (amount - capOf slow) asc Rat.le_refl (fun y hy => (hle y hy).2) hlast (fun s hs => .inr (hcl s hs)) (by rw [mix_zero h]) (by grind) (fun y hy => ?_) (hamt.sub hcap)
  rcases List.mem_cons.mp hy with rfl | hy
  · exact ⟨0, by grind⟩
  · obtain ⟨s, hs, rfl⟩ := hmem y hy
    rcases List.mem_append.mp hs with hs | hs
    · exact (h.of s hs).cl.ovr
    · exact (h.os s hs).cl.ovr
end
end My

/-! Parts of lanes, lanes joined: chains, counts. -/
namespace My
theorem laneB_cons (s : Seg) (r : List Seg) (f l : Rat) : laneB (s :: r) f l = (match cut s f l with | none => laneB r f l | some x => x :: laneB r f l) := by
  unfold laneB
  rw [List.filterMap_cons]
  cases cut s f l <;> rfl
theorem laneB_none {r : List Seg} {f l : Rat} (h : ∀ s ∈ r, l ≤ s.op) (h2 : ∀ s ∈ r, s.op ≤ s.cl) : laneB r f l = [] := by
  induction r with
  | nil => rfl
  | cons s r ih =>
    rw [laneB_cons]
    have : cut s f l = none := by
      have h1 := h s List.mem_cons_self
      have h3 := h2 s List.mem_cons_self
      rw [cut_def, if_neg]
      grind
    rw [this]
    exact ih (fun x hx => h x (List.mem_cons_of_mem _ hx)) (fun x hx => h2 x (List.mem_cons_of_mem _ hx))
theorem laneB_from {r : List Seg} {c f l : Rat} (h : ∀ s ∈ r, c ≤ s.op) (hf : f ≤ c) : laneB r f l = laneB r c l := by
  induction r with
  | nil => rfl
  | cons s r ih =>
    rw [laneB_cons, laneB_cons, ih fun x hx => h x (List.mem_cons_of_mem _ hx)]
    have : cut s f l = cut s c l := by
      have h1 := h s List.mem_cons_self
      have e1 : (if s.op < f then f else s.op) = s.op := if_neg (by grind)
      have e2 : (if s.op < c then c else s.op) = s.op := if_neg (by grind)
      rw [cut_def, cut_def, e1, e2]
    rw [this]
theorem chn_laneB : ∀ {lane : List Seg} {a b f l : Rat}, Chn a lane b → a ≤ f → f < l → l ≤ b → Chn f (laneB lane f l) l
  | [], a, b, f, l, h, h1, h2, h3 => by
    have : a = b := h
    grind
  | s :: r, a, b, f, l, ⟨e, h0, h⟩, h1, h2, h3 => by
    rw [laneB_cons, cut_def]
    have hm := Chn.mem h
    by_cases hc : s.cl ≤ f
    · rw [if_neg (by grind)]
      exact chn_laneB h hc h2 h3
    · have ef : (if s.op < f then f else s.op) = f := by grind
      rw [ef]
      by_cases hl : l ≤ s.cl
      · have el : (if l < s.cl then l else s.cl) = l := by grind
        rw [el, if_pos h2, laneB_none (fun x hx => by have := hm x hx; grind) (fun x hx => by have := hm x hx; grind)]
        exact ⟨rfl, h2, rfl⟩
      · have el : (if l < s.cl then l else s.cl) = s.cl := by grind
        rw [el, if_pos (by grind), laneB_from (c := s.cl) (fun x hx => (hm x hx).1) (by grind)]
        exact ⟨rfl, by show f < s.cl; grind, chn_laneB h Rat.le_refl (by grind) h3⟩
theorem chn_laneB' {lane : List Seg} {a b f l : Rat} (h : Chn a lane b) (h1 : a ≤ f) (h2 : f ≤ l) (h3 : l ≤ b) : Chn f (laneB lane f l) l := by
  by_cases e : f = l
  · subst e
    have : laneB lane f f = [] := by
      clear h1 h2 h3
      induction lane generalizing a with
      | nil => rfl
      | cons s r ih =>
        rw [laneB_cons, cut_def, if_neg (by have := h.2.1; grind)]
        exact ih h.2.2
    rw [this]
    exact rfl
  · exact chn_laneB h h1 (by grind) h3
theorem mem_laneB {lane : List Seg} {f l : Rat} {x : Seg} (h : x ∈ laneB lane f l) : ∃ s ∈ lane, x.rate = s.rate ∧ x.ow = s.ow ∧ (x.op = f ∨ x.op = s.op) ∧ (x.cl = l ∨ x.cl = s.cl) := by
  obtain ⟨s, hs, e⟩ := List.mem_filterMap.mp h
  obtain ⟨rfl, _⟩ := cut_some e
  refine ⟨s, hs, rfl, rfl, ?_, ?_⟩
  · show (if s.op < f then f else s.op) = f ∨ (if s.op < f then f else s.op) = s.op
    split
    · exact .inl rfl
    · exact .inr rfl
  · show (if l < s.cl then l else s.cl) = l ∨ (if l < s.cl then l else s.cl) = s.cl
    split
    · exact .inl rfl
    · exact .inr rfl
theorem laneB_len (lane : List Seg) (f l : Rat) : (laneB lane f l).length ≤ lane.length := List.length_filterMap_le _ _
/-! ### joined -/
theorem joinL_cases (a b : List Seg) : joinL a b = a ++ b ∨ ∃ a' x y b', a = a' ++ [x] ∧ b = y :: b' ∧ x.ow = y.ow ∧ joinL a b = a' ++ ⟨x.op, y.cl, x.rate, x.ow⟩ :: b' := by
  cases b with
  | nil => left; unfold joinL; cases a[a.length - 1]? <;> rfl
  | cons y b' =>
    by_cases ha : a = []
    · left; subst ha; rfl
    · have e : a = a.dropLast ++ [a.getLast ha] := (List.dropLast_concat_getLast ha).symm
      have e1 : a[a.length - 1]? = some (a.getLast ha) := by rw [List.getLast_eq_getElem, List.getElem?_eq_getElem]
      by_cases ho : (a.getLast ha).ow = y.ow
      · right
        refine ⟨_, _, y, b', e, rfl, ho, ?_⟩
        unfold joinL
        rw [e1]
        show (if (a.getLast ha).ow = y.ow then _ else _) = _
        rw [if_pos ho]
        simp
      · left
        unfold joinL
        rw [e1]
        show (if (a.getLast ha).ow = y.ow then _ else _) = _
        rw [if_neg ho]
theorem Chn.split : ∀ {a c : Rat} {u v : List Seg}, Chn a (u ++ v) c → ∃ b, Chn a u b ∧ Chn b v c
  | a, c, [], v, h => ⟨a, rfl, h⟩
  | a, c, s :: r, v, ⟨h1, h2, h3⟩ => let ⟨b, k1, k2⟩ := Chn.split (u := r) h3; ⟨b, ⟨h1, h2, k1⟩, k2⟩
theorem chn_joinL {a b : List Seg} {p q r : Rat} (h : Chn p a q) (k : Chn q b r) : Chn p (joinL a b) r := by
  rcases joinL_cases a b with e | ⟨a', x, y, b', rfl, rfl, ho, e⟩
  · rw [e]; exact h.append k
  · rw [e]
    obtain ⟨z, k1, k2⟩ := h.split
    have e1 : x.cl = q := k2.2.2
    have e2 : y.op = q := k.1
    have l1 := k2.2.1
    have l2 := k.2.1
    exact k1.append ⟨k2.1, by show x.op < y.cl; grind, k.2.2⟩
theorem joinL_len (a b : List Seg) : (joinL a b).length ≤ a.length + b.length := by
  rcases joinL_cases a b with e | ⟨a', x, y, b', rfl, rfl, ho, e⟩
  · rw [e, List.length_append]; exact Nat.le_refl _
  · rw [e]
    simp only [List.length_append, List.length_cons, List.length_nil]
    omega
theorem mem_joinL {a b : List Seg} {s : Seg} (h : s ∈ joinL a b) : (∃ x ∈ a ++ b, s.rate = x.rate ∧ s.ow = x.ow) ∧ (∃ x ∈ a ++ b, s.op = x.op) ∧ ∃ x ∈ a ++ b, s.cl = x.cl := by
  rcases joinL_cases a b with e | ⟨a', x, y, b', rfl, rfl, ho, e⟩
  · rw [e] at h
    exact ⟨⟨s, h, rfl, rfl⟩, ⟨s, h, rfl⟩, ⟨s, h, rfl⟩⟩
  · rw [e] at h
    have hx : x ∈ (a' ++ [x]) ++ y :: b' := by simp
    have hy : y ∈ (a' ++ [x]) ++ y :: b' := by simp
    rcases List.mem_append.mp h with h | h
    · have hs : s ∈ (a' ++ [x]) ++ y :: b' := by simp [h]
      exact ⟨⟨s, hs, rfl, rfl⟩, ⟨s, hs, rfl⟩, ⟨s, hs, rfl⟩⟩
    · rcases List.mem_cons.mp h with rfl | h
      · exact ⟨⟨x, hx, rfl, rfl⟩, ⟨x, hx, rfl⟩, ⟨y, hy, rfl⟩⟩
      · have hs : s ∈ (a' ++ [x]) ++ y :: b' := by simp [h]
        exact ⟨⟨s, hs, rfl, rfl⟩, ⟨s, hs, rfl⟩, ⟨s, hs, rfl⟩⟩
theorem capOf_joinL {a b : List Seg} {p q r : Rat} (h : Chn p a q) (k : Chn q b r) (hr : ∀ x ∈ a, ∀ y ∈ b, x.ow = y.ow → x.rate = y.rate) : capOf (joinL a b) = capOf a + capOf b := by
  rcases joinL_cases a b with e | ⟨a', x, y, b', rfl, rfl, ho, e⟩
  · rw [e, capOf_eq, capOf_eq, capOf_eq, List.map_append, rsum_append]
  · rw [e, capOf_eq, capOf_eq, capOf_eq]
    obtain ⟨z, k1, k2⟩ := h.split
    have e1 : x.cl = q := k2.2.2
    have e2 : y.op = q := k.1
    have e3 := hr x (by simp) y (by simp) ho
    simp only [List.map_append, List.map_cons, List.map_nil, rsum_append, rsum, content]
    grind
/-! ### counts -/
def nsum (g : Seg → Nat) : List Seg → Nat
  | [] => 0
  | s :: r => g s + nsum g r
theorem nsum_append (g : Seg → Nat) (a b : List Seg) : nsum g (a ++ b) = nsum g a + nsum g b := by
  induction a with
  | nil => show nsum g b = 0 + nsum g b; omega
  | cons s r ih => show g s + nsum g (r ++ b) = g s + nsum g r + nsum g b; rw [ih]; omega
def og (g : Seg → Nat) : Option Seg → Nat
  | none => 0
  | some x => g x
theorem nsum_laneB (g : Seg → Nat) (s : Seg) (r : List Seg) (f l : Rat) : nsum g (laneB (s :: r) f l) = og g (cut s f l) + nsum g (laneB r f l) := by
  rw [laneB_cons]
  cases cut s f l with
  | none => exact (Nat.zero_add _).symm
  | some x => rfl
/-- segments of k at work at t -/
def atk (k : Nat) (t : Rat) (s : Seg) : Nat := if s.ow = some k ∧ s.op ≤ t ∧ t < s.cl then 1 else 0
def real (s : Seg) : Nat := if s.ow = none then 0 else 1
theorem at_cut (k : Nat) (t : Rat) (s : Seg) {m len : Rat} (h0 : 0 ≤ s.op) (h1 : s.cl ≤ len) (hm : 0 ≤ m) (hl : m ≤ len) : og (atk k t) (cut s 0 m) + og (atk k t) (cut s m len) ≤ atk k t s := by
  rw [cut_def, cut_def]
  have e1 : (if s.op < 0 then 0 else s.op) = s.op := if_neg (by grind)
  have e2 : (if len < s.cl then len else s.cl) = s.cl := if_neg (by grind)
  rw [e1, e2]
  by_cases c1 : s.op < (if m < s.cl then m else s.cl)
  · rw [if_pos c1]
    by_cases c2 : (if s.op < m then m else s.op) < s.cl
    · rw [if_pos c2]
      show (if s.ow = some k ∧ s.op ≤ t ∧ t < (if m < s.cl then m else s.cl) then 1 else 0) + (if s.ow = some k ∧ (if s.op < m then m else s.op) ≤ t ∧ t < s.cl then 1 else 0) ≤ (if s.ow = some k ∧ s.op ≤ t ∧ t < s.cl then 1 else 0)
      grind
    · rw [if_neg c2]
      show (if s.ow = some k ∧ s.op ≤ t ∧ t < (if m < s.cl then m else s.cl) then 1 else 0) + 0 ≤ (if s.ow = some k ∧ s.op ≤ t ∧ t < s.cl then 1 else 0)
      grind
  · rw [if_neg c1]
    by_cases c2 : (if s.op < m then m else s.op) < s.cl
    · rw [if_pos c2]
      show 0 + (if s.ow = some k ∧ (if s.op < m then m else s.op) ≤ t ∧ t < s.cl then 1 else 0) ≤ (if s.ow = some k ∧ s.op ≤ t ∧ t < s.cl then 1 else 0)
      grind
    · rw [if_neg c2]
      exact Nat.zero_le _
theorem at_laneB (k : Nat) (t : Rat) {lane : List Seg} {m len : Rat} (h : ∀ s ∈ lane, 0 ≤ s.op ∧ s.cl ≤ len) (hm : 0 ≤ m) (hl : m ≤ len) : nsum (atk k t) (laneB lane 0 m) + nsum (atk k t) (laneB lane m len) ≤ nsum (atk k t) lane := by
  induction lane with
  | nil => exact Nat.le_refl _
  | cons s r ih =>
    rw [nsum_laneB, nsum_laneB]
    have h1 := h s List.mem_cons_self
    have q := at_cut k t s h1.1 h1.2 hm hl
    have q2 := ih fun x hx => h x (List.mem_cons_of_mem _ hx)
    show _ ≤ atk k t s + nsum _ r
    omega
theorem at_joinL (k : Nat) (t : Rat) {a b : List Seg} {p q r : Rat} (h : Chn p a q) (kk : Chn q b r) : nsum (atk k t) (joinL a b) ≤ nsum (atk k t) a + nsum (atk k t) b := by
  rcases joinL_cases a b with e | ⟨a', x, y, b', rfl, rfl, ho, e⟩
  · rw [e, nsum_append]; exact Nat.le_refl _
  · rw [e, nsum_append, nsum_append]
    obtain ⟨z, k1, k2⟩ := h.split
    have e1 : x.cl = q := k2.2.2
    have e2 : y.op = q := kk.1
    have : atk k t ⟨x.op, y.cl, x.rate, x.ow⟩ ≤ atk k t x + atk k t y := by
      unfold atk
      simp only
      grind
    show nsum _ a' + (_ + nsum _ b') ≤ nsum _ a' + (atk k t x + 0) + (atk k t y + nsum _ b')
    omega
theorem real_joinL (a b : List Seg) : nsum real (joinL a b) ≤ nsum real a + nsum real b ∧ (nsum real (joinL a b) = 0 → nsum real a = 0 ∧ nsum real b = 0) := by
  rcases joinL_cases a b with e | ⟨a', x, y, b', rfl, rfl, ho, e⟩
  · rw [e, nsum_append]; exact ⟨Nat.le_refl _, fun h => by omega⟩
  · rw [e, nsum_append, nsum_append]
    have e1 : real ⟨x.op, y.cl, x.rate, x.ow⟩ = real x := rfl
    have e2 : real y = real x := by unfold real; rw [ho]
    show nsum _ a' + (_ + nsum _ b') ≤ nsum _ a' + (real x + 0) + (real y + nsum _ b') ∧ (nsum _ a' + (_ + nsum _ b') = 0 → nsum _ a' + (real x + 0) = 0 ∧ (real y + nsum _ b') = 0)
    rw [e1, e2]
    omega
theorem og_pos {s : Seg} {f l : Rat} (h : (if s.op < f then f else s.op) < (if l < s.cl then l else s.cl)) : og real (cut s f l) = real s := by
  rw [cut_def, if_pos h]
  rfl
theorem og_neg {s : Seg} {f l : Rat} (h : ¬ (if s.op < f then f else s.op) < (if l < s.cl then l else s.cl)) : og real (cut s f l) = 0 := by
  rw [cut_def, if_neg h]
  rfl
theorem og_le (s : Seg) (f l : Rat) : og real (cut s f l) ≤ real s := by
  by_cases h : (if s.op < f then f else s.op) < (if l < s.cl then l else s.cl)
  · exact Nat.le_of_eq (og_pos h)
  · rw [og_neg h]; exact Nat.zero_le _
theorem real_le (r : List Seg) (f l : Rat) : nsum real (laneB r f l) ≤ nsum real r := by
  induction r with
  | nil => exact Nat.le_refl _
  | cons x r ih =>
    rw [nsum_laneB]
    have := og_le x f l
    show _ ≤ real x + nsum real r
    omega
/-- a moment cuts at most one real segment, and then both parts are real -/
theorem real_laneB : ∀ {lane : List Seg} {a b m f l : Rat}, Chn a lane b → f ≤ a → b ≤ l → f ≤ m → m ≤ l →
    nsum real (laneB lane f m) + nsum real (laneB lane m l) ≤ nsum real lane ∨ (nsum real (laneB lane f m) + nsum real (laneB lane m l) ≤ nsum real lane + 1 ∧ nsum real (laneB lane f m) ≠ 0 ∧ nsum real (laneB lane m l) ≠ 0)
  | [], a, b, m, f, l, h, _, _, _, _ => .inl (Nat.le_refl _)
  | s :: r, a, b, m, f, l, ⟨e, h0, h⟩, h1, h2, h3, h4 => by
    have hm := Chn.mem h
    have hb := Chn.le h
    rw [nsum_laneB, nsum_laneB]
    have er := real_le r m l
    have hs : nsum real (s :: r) = real s + nsum real r := rfl
    rw [hs]
    by_cases c : s.cl ≤ m
    · rw [og_pos (s := s) (f := f) (l := m) (by grind), og_neg (s := s) (f := m) (l := l) (by grind)]
      have ih := real_laneB h (f := f) (by grind) h2 h3 h4
      omega
    · have en : laneB r f m = [] := laneB_none (fun x hx => by have := hm x hx; grind) (fun x hx => by have := hm x hx; grind)
      have en0 : nsum real (laneB r f m) = 0 := by rw [en]; rfl
      rw [en0]
      by_cases c2 : s.op < m
      · rw [og_pos (s := s) (f := f) (l := m) (by grind), og_pos (s := s) (f := m) (l := l) (by grind)]
        have : real s = 0 ∨ real s = 1 := by unfold real; split <;> simp
        omega
      · rw [og_neg (s := s) (f := f) (l := m) (by grind), og_pos (s := s) (f := m) (l := l) (by grind)]
        left
        omega
end My

/-! One work: the lane used, the lane left, the capacities. -/
namespace My
structure Wd where
  L : Nat
  sp : List Nat
  am : List Nat
structure Wd.Ok (W : Wd) : Prop where
  l0 : 0 < W.L
  l1 : W.L ≤ 2 ^ 100
  sl : W.sp.length ≤ 100
  sb : ∀ x ∈ W.sp, x ≤ 2 ^ 64
  al : W.am.length ≤ 45
  ab : ∀ x ∈ W.am, x ≤ 2 ^ 200
def Wd.rt (W : Wd) : Option Nat → Rat
  | none => 0
  | some k => ((W.sp.getD k 0 : Nat) : Rat)
def Wd.idle (W : Wd) : Seg := ⟨0, (W.L : Rat), 0, none⟩
structure LnOk (W : Wd) (D : Nat) (lane : List Seg) : Prop where
  ch : Chn 0 lane (W.L : Rat)
  sg : ∀ s ∈ lane, Ovr D s.op ∧ Ovr D s.cl ∧ s.rate = W.rt s.ow ∧ ∀ k, s.ow = some k → k < W.sp.length
theorem LnOk.up {W : Wd} {D e : Nat} {lane : List Seg} (h : LnOk W D lane) : LnOk W (D * e) lane := ⟨h.ch, fun s hs => let ⟨a, b, c⟩ := h.sg s hs; ⟨a.up, b.up, c⟩⟩
theorem Wd.Ok.rt {W : Wd} (h : W.Ok) (o : Option Nat) : ∃ r : Nat, W.rt o = (r : Rat) ∧ r ≤ 2 ^ 64 := by
  cases o with
  | none => exact ⟨0, rfl, Nat.zero_le _⟩
  | some k =>
    refine ⟨_, rfl, ?_⟩
    rw [List.getD_eq_getElem?_getD]
    cases e : W.sp[k]? with
    | none => exact Nat.zero_le _
    | some x => exact h.sb x (List.mem_of_getElem? e)
theorem Ovr.gr {D B : Nat} {q : Rat} (h : Ovr D q) (h0 : 0 ≤ q) (h1 : q ≤ (B : Rat)) : Gr D (B * D) q := by
  obtain ⟨n, e⟩ := h
  refine ⟨n, e, ?_⟩
  have hD : (0 : Rat) ≤ (D : Rat) := by simpa using Rat.natCast_nonneg
  have a1 : (0 : Rat) ≤ (n : Rat) := by rw [← e]; exact Rat.mul_nonneg h0 hD
  have a2 : (n : Rat) ≤ ((B * D : Nat) : Rat) := by rw [← e, Rat.natCast_mul]; exact Rat.mul_le_mul_of_nonneg_right h1 hD
  have b1 : 0 ≤ n := by rw [← Rat.intCast_zero] at a1; exact Rat.intCast_le_intCast.mp a1
  have b2 : n ≤ ((B * D : Nat) : Int) := by rw [← Rat.intCast_natCast] at a2; exact Rat.intCast_le_intCast.mp a2
  omega
theorem LnOk.seg {W : Wd} {D : Nat} {lane : List Seg} (w : W.Ok) (d : DOk D) (h : LnOk W D lane) : ∀ s ∈ lane, SegOk D s := fun s hs => by
  obtain ⟨a, b, c, _⟩ := h.sg s hs
  have hm := h.ch.mem s hs
  have hb : W.L * D ≤ 2 ^ 3200 := Nat.le_trans (Nat.mul_le_mul w.l1 (Nat.le_of_lt d.lt)) (by decide)
  obtain ⟨r, e, l⟩ := w.rt s.ow
  exact ⟨(a.gr (by grind) (by grind)).mono hb, (b.gr (by grind) (by grind)).mono hb, r, by rw [c, e], l⟩
theorem idle_ok {W : Wd} (w : W.Ok) (D : Nat) : LnOk W D [W.idle] := by
  have hl : (0 : Rat) < (W.L : Rat) := Rat.natCast_lt_natCast.mpr w.l0
  refine ⟨⟨rfl, hl, rfl⟩, fun s hs => ?_⟩
  have : s = W.idle := by simpa using hs
  subst this
  exact ⟨⟨0, by show (0 : Rat) * _ = _; grind⟩, ⟨W.L * D, by show (W.L : Rat) * _ = _; rw [Rat.intCast_mul, Rat.intCast_natCast, Rat.intCast_natCast]⟩, rfl, fun k e => by cases e⟩
theorem capOf_idle (W : Wd) : capOf [W.idle] = 0 := by rw [capOf_eq]; show 0 * _ + 0 = (0 : Rat); grind
theorem real_idle (W : Wd) : nsum real [W.idle] = 0 := rfl
theorem at_idle (W : Wd) (k : Nat) (t : Rat) : nsum (atk k t) [W.idle] = 0 := by
  show atk k t W.idle + 0 = 0
  unfold atk
  rw [if_neg (fun h => by cases h.1)]
/-- what one work does to two lanes -/
structure PairOk (W : Wd) (D : Nat) (fast slow : List Seg) (a : Rat) (used rest : List Seg) : Prop where
  u : LnOk W D used
  r : LnOk W D rest
  cu : capOf used = a
  cr : capOf rest = capOf fast + capOf slow - a
  at_ : ∀ k t, nsum (atk k t) used + nsum (atk k t) rest ≤ nsum (atk k t) fast + nsum (atk k t) slow
  p2 : nsum real used + max (nsum real rest) 1 ≤ max (nsum real fast) 1 + max (nsum real slow) 1 + 2
  p1 : nsum real slow = 0 → nsum real used + max (nsum real rest) 1 ≤ max (nsum real fast) 1 + 1
  lu : used.length ≤ fast.length + slow.length
  lr : rest.length ≤ fast.length + slow.length
theorem part_ok {W : Wd} {D e : Nat} {a b : List Seg} {p m : Rat} (h : LnOk W D a) (k : LnOk W D b) (h0 : 0 ≤ m) (h1 : m ≤ (W.L : Rat)) (hm : Ovr (D * e) m) : LnOk W (D * e) (joinL (laneB a 0 m) (laneB b m (W.L : Rat))) := by
  have c1 := chn_laneB' h.ch Rat.le_refl h0 h1
  have c2 := chn_laneB' k.ch h0 h1 Rat.le_refl
  refine ⟨chn_joinL c1 c2, fun s hs => ?_⟩
  have z : ∀ x ∈ laneB a 0 m ++ laneB b m (W.L : Rat), Ovr (D * e) x.op ∧ Ovr (D * e) x.cl ∧ x.rate = W.rt x.ow ∧ ∀ k, x.ow = some k → k < W.sp.length := fun x hx => by
    have o0 : Ovr (D * e) 0 := ⟨0, by grind⟩
    have oL : Ovr (D * e) (W.L : Rat) := ⟨W.L * (D * e : Nat), by rw [Rat.intCast_mul, Rat.intCast_natCast, Rat.intCast_natCast]⟩
    rcases List.mem_append.mp hx with hx | hx
    · obtain ⟨y, hy, e1, e2, e3, e4⟩ := mem_laneB hx
      obtain ⟨q1, q2, q3, q4⟩ := h.sg y hy
      refine ⟨?_, ?_, by rw [e1, e2]; exact q3, by rw [e2]; exact q4⟩
      · rcases e3 with e3 | e3 <;> rw [e3]
        · exact o0
        · exact q1.up
      · rcases e4 with e4 | e4 <;> rw [e4]
        · exact hm
        · exact q2.up
    · obtain ⟨y, hy, e1, e2, e3, e4⟩ := mem_laneB hx
      obtain ⟨q1, q2, q3, q4⟩ := k.sg y hy
      refine ⟨?_, ?_, by rw [e1, e2]; exact q3, by rw [e2]; exact q4⟩
      · rcases e3 with e3 | e3 <;> rw [e3]
        · exact hm
        · exact q1.up
      · rcases e4 with e4 | e4 <;> rw [e4]
        · exact oL
        · exact q2.up
  obtain ⟨⟨x, hx, e1, e2⟩, ⟨y, hy, e3⟩, ⟨v, hv, e4⟩⟩ := mem_joinL hs
  have q1 := z x hx
  exact ⟨by rw [e3]; exact (z y hy).1, by rw [e4]; exact (z v hv).2.1, by rw [e1, e2]; exact q1.2.2.1, by rw [e2]; exact q1.2.2.2⟩
theorem cap_part {W : Wd} {D : Nat} {a b : List Seg} {m : Rat} (h : LnOk W D a) (k : LnOk W D b) (h0 : 0 ≤ m) (h1 : m ≤ (W.L : Rat)) : capOf (joinL (laneB a 0 m) (laneB b m (W.L : Rat))) = capB a 0 m + capB b m (W.L : Rat) := by
  rw [capOf_joinL (chn_laneB' h.ch Rat.le_refl h0 h1) (chn_laneB' k.ch h0 h1 Rat.le_refl) ?_, capOf_laneB, capOf_laneB]
  intro x hx y hy ho
  obtain ⟨x', hx', e1, e2, _⟩ := mem_laneB hx
  obtain ⟨y', hy', f1, f2, _⟩ := mem_laneB hy
  rw [e1, f1, (h.sg x' hx').2.2.1, (k.sg y' hy').2.2.1, ← e2, ← f2, ho]
theorem chn_first {a : List Seg} {l : Rat} (h : Chn 0 a l) (hl : 0 < l) : ∃ s, a[0]? = some s := by
  cases a with
  | nil => have : (0 : Rat) = l := h; grind
  | cons s r => exact ⟨s, rfl⟩
theorem pair_ok {W : Wd} {D : Nat} {fast slow : List Seg} {a : Rat} (w : W.Ok) (d : DOk D) (h : LnOk W D fast) (k : LnOk W D slow) (h1 : capOf slow < a) (h2 : a ≤ capOf fast) (ha : Ovr D a) :
    ∃ e : Nat, 0 < e ∧ e ≤ 2 ^ 64 ∧ PairOk W (D * e) fast slow a (joinL (laneB fast 0 (switchM fast slow a)) (laneB slow (switchM fast slow a) (W.L : Rat))) (joinL (laneB slow 0 (switchM fast slow a)) (laneB fast (switchM fast slow a) (W.L : Rat))) := by
  have hl : (0 : Rat) < (W.L : Rat) := Rat.natCast_lt_natCast.mpr w.l0
  obtain ⟨s0, e0⟩ := chn_first h.ch hl
  have lo : LanesOk D (W.L : Rat) fast slow := ⟨h.ch, k.ch, h.seg w d, k.seg w d⟩
  have hcap : Ovr D (capOf slow) := by
    have : ∀ (l : List Seg), (∀ s ∈ l, Ovr D s.op ∧ Ovr D s.cl ∧ s.rate = W.rt s.ow ∧ ∀ k, s.ow = some k → k < W.sp.length) → Ovr D (rsum (l.map content)) := by
      intro l
      induction l with
      | nil => intro _; exact ⟨0, by show (0 : Rat) * _ = _; grind⟩
      | cons s r ih =>
        intro hs
        obtain ⟨q1, q2, q3, q4⟩ := hs s List.mem_cons_self
        obtain ⟨n, en, _⟩ := w.rt s.ow
        exact (Ovr.mul (m := 0) (n : Int) (by rw [q3, en, Rat.intCast_natCast]) (q2.sub q1)).add (ih fun x hx => hs x (List.mem_cons_of_mem _ hx))
    rw [capOf_eq]
    exact this slow k.sg
  obtain ⟨hmix, hm0, hm1, e, he0, he1, hov⟩ := switch_ok lo hl e0 h1 h2 ha hcap
  generalize switchM fast slow a = m at *
  have m0 : 0 ≤ m := Rat.le_of_lt hm0
  refine ⟨e, he0, he1, part_ok (p := 0) h k m0 hm1 hov, part_ok (p := 0) k h m0 hm1 hov, ?_, ?_, fun j t => ?_, ?_, ?_, ?_, ?_⟩
  · rw [cap_part h k m0 hm1]
    exact hmix
  · rw [cap_part k h m0 hm1]
    have e1 := capB_add (lane := fast) m0 hm1 h.ch.opcl
    have e2 := capB_add (lane := slow) m0 hm1 k.ch.opcl
    have e3 : capB fast 0 (W.L : Rat) = capOf fast := capB_full fun s hs => by have := h.ch.mem s hs; grind
    have e4 : capB slow 0 (W.L : Rat) = capOf slow := capB_full fun s hs => by have := k.ch.mem s hs; grind
    unfold mixF at hmix
    grind
  · have q1 := at_joinL j t (chn_laneB' h.ch Rat.le_refl m0 hm1) (chn_laneB' k.ch m0 hm1 Rat.le_refl)
    have q2 := at_joinL j t (chn_laneB' k.ch Rat.le_refl m0 hm1) (chn_laneB' h.ch m0 hm1 Rat.le_refl)
    have q3 := at_laneB j t (lane := fast) (fun s hs => by have := h.ch.mem s hs; grind) m0 hm1
    have q4 := at_laneB j t (lane := slow) (fun s hs => by have := k.ch.mem s hs; grind) m0 hm1
    omega
  · have q1 := real_joinL (laneB fast 0 m) (laneB slow m (W.L : Rat))
    have q2 := real_joinL (laneB slow 0 m) (laneB fast m (W.L : Rat))
    have q3 := real_laneB h.ch (f := 0) (m := m) (l := (W.L : Rat)) Rat.le_refl Rat.le_refl m0 hm1
    have q4 := real_laneB k.ch (f := 0) (m := m) (l := (W.L : Rat)) Rat.le_refl Rat.le_refl m0 hm1
    omega
  · intro hz
    have q1 := real_joinL (laneB fast 0 m) (laneB slow m (W.L : Rat))
    have q2 := real_joinL (laneB slow 0 m) (laneB fast m (W.L : Rat))
    have q3 := real_laneB h.ch (f := 0) (m := m) (l := (W.L : Rat)) Rat.le_refl Rat.le_refl m0 hm1
    have q4 := real_le slow 0 m
    have q5 := real_le slow m (W.L : Rat)
    omega
  · have := joinL_len (laneB fast 0 m) (laneB slow m (W.L : Rat))
    have := laneB_len fast 0 m
    have := laneB_len slow m (W.L : Rat)
    omega
  · have := joinL_len (laneB slow 0 m) (laneB fast m (W.L : Rat))
    have := laneB_len fast m (W.L : Rat)
    have := laneB_len slow 0 m
    omega
/-! ### capacities -/
def Can (c a : List Rat) : Prop := ∀ k, k ≤ a.length → rsum (a.take k) ≤ rsum (c.take k)
def Desc (c : List Rat) : Prop := ∀ i, c.getD (i + 1) 0 ≤ c.getD i 0
theorem rsum_take (c : List Rat) : ∀ k, rsum (c.take (k + 1)) = rsum (c.take k) + c.getD k 0 := by
  induction c with
  | nil => intro k; simp [rsum]; grind
  | cons x r ih =>
    intro k
    cases k with
    | zero => simp [rsum]; grind
    | succ k =>
      show x + rsum (r.take (k + 1)) = x + rsum (r.take k) + r.getD k 0
      rw [ih k]
      grind
theorem Desc.le {c : List Rat} (h : Desc c) : ∀ {i j : Nat}, i ≤ j → c.getD j 0 ≤ c.getD i 0
  | i, 0, hij => by have : i = 0 := by omega
                    subst this; exact Rat.le_refl
  | i, j + 1, hij => by
    by_cases e : i = j + 1
    · subst e; exact Rat.le_refl
    · exact Rat.le_trans (h j) (Desc.le h (by omega))
theorem Desc.nn {c : List Rat} (h : Desc c) (i : Nat) : 0 ≤ c.getD i 0 := by
  by_cases e : i < c.length
  · have := Desc.le h (Nat.le_of_lt e)
    rw [List.getD_eq_getElem?_getD, List.getElem?_eq_none (Nat.le_refl _)] at this
    exact this
  · rw [List.getD_eq_getElem?_getD, List.getElem?_eq_none (by omega)]
    exact Rat.le_refl
def putC (c : List Rat) (at_ : Nat) (a : Rat) : List Rat := c.take at_ ++ [c.getD at_ 0 + c.getD (at_ + 1) 0 - a] ++ c.drop (at_ + 2)
theorem putC_get {c : List Rat} {i : Nat} {a : Rat} (hi : i < c.length) (j : Nat) : (putC c i a).getD j 0 = if j < i then c.getD j 0 else if j = i then c.getD i 0 + c.getD (i + 1) 0 - a else c.getD (j + 1) 0 := by
  unfold putC
  have l1 : (c.take i).length = i := by rw [List.length_take]; omega
  rw [List.append_assoc, List.getD_eq_getElem?_getD]
  by_cases h1 : j < i
  · rw [if_pos h1, List.getElem?_append_left (by omega), List.getElem?_take_of_lt h1, ← List.getD_eq_getElem?_getD]
  · rw [if_neg h1, List.getElem?_append_right (by omega), l1]
    by_cases h2 : j = i
    · subst h2
      rw [if_pos rfl, Nat.sub_self]
      rfl
    · rw [if_neg h2]
      obtain ⟨n, rfl⟩ : ∃ n, j = i + 1 + n := ⟨j - i - 1, by omega⟩
      rw [show i + 1 + n - i = n + 1 by omega]
      show ((c.drop (i + 2))[n]?).getD 0 = _
      rw [List.getElem?_drop, List.getD_eq_getElem?_getD, show i + 2 + n = i + 1 + n + 1 by omega]
theorem putC_sum {c : List Rat} {i : Nat} {a : Rat} (hi : i < c.length) : ∀ k, rsum ((putC c i a).take k) = if k ≤ i then rsum (c.take k) else rsum (c.take (k + 1)) - a
  | 0 => by rw [if_pos (Nat.zero_le _)]; rfl
  | k + 1 => by
    rw [rsum_take, putC_sum hi k, putC_get hi]
    have s1 := rsum_take c k
    have s2 := rsum_take c (k + 1)
    grind
theorem rsum_le {a : Rat} : ∀ (l : List Rat) (n : Nat) (c : List Rat), (∀ x ∈ l, x ≤ a) → (∀ i, i < n → a ≤ c.getD i 0) → n ≤ l.length → rsum (l.take n) ≤ rsum (c.take n)
  | l, 0, c, h, k, hn => by simp [rsum]
  | [], n + 1, c, h, k, hn => by simp at hn
  | x :: r, n + 1, c, h, k, hn => by
    have h1 := h x List.mem_cons_self
    have ih := rsum_le (x :: r) n c h (fun i hi => k i (Nat.lt_succ_of_lt hi)) (by simp at hn ⊢; omega)
    have k1 := k n (Nat.lt_succ_self n)
    rw [rsum_take, rsum_take]
    have : (x :: r).getD n 0 ≤ a := by
      rw [List.getD_eq_getElem?_getD, List.getElem?_eq_getElem (show n < (x :: r).length from hn)]
      exact h _ (List.getElem_mem _)
    grind
theorem can_step {c as : List Rat} {a : Rat} {i : Nat} (hi : i < c.length) (hd : Desc c) (ha : a ≤ c.getD i 0) (hs : ∀ x ∈ as, x ≤ a) : Can c (a :: as) ↔ Can (putC c i a) as := by
  have hci : ∀ j, j ≤ i → a ≤ c.getD j 0 := fun j hj => Rat.le_trans ha (hd.le hj)
  constructor
  · intro h k hk
    rw [putC_sum hi]
    by_cases e : k ≤ i
    · rw [if_pos e]
      exact rsum_le as k c hs (fun j hj => hci j (by omega)) hk
    · rw [if_neg e]
      have := h (k + 1) (by simpa using hk)
      rw [show (a :: as).take (k + 1) = a :: as.take k from rfl] at this
      have e2 : rsum (a :: as.take k) = a + rsum (as.take k) := rfl
      rw [e2] at this
      grind
  · intro h k hk
    by_cases e : k ≤ i + 1
    · refine rsum_le (a :: as) k c (fun x hx => ?_) (fun j hj => hci j (by omega)) hk
      rcases List.mem_cons.mp hx with rfl | hx
      · exact Rat.le_refl
      · exact hs x hx
    · obtain ⟨n, rfl⟩ : ∃ n, k = n + 1 := ⟨k - 1, by omega⟩
      have := h n (by simpa using hk)
      rw [putC_sum hi, if_neg (by omega)] at this
      rw [show (a :: as).take (n + 1) = a :: as.take n from rfl]
      have e2 : rsum (a :: as.take n) = a + rsum (as.take n) := rfl
      rw [e2]
      grind
theorem desc_put {c : List Rat} {a : Rat} {i : Nat} (hi : i < c.length) (hd : Desc c) (h0 : 0 < a) (ha : a ≤ c.getD i 0) (hb : c.getD (i + 1) 0 < a) : Desc (putC c i a) := by
  intro j
  rw [putC_get hi, putC_get hi]
  have d1 := hd j
  have d2 := hd (j + 1)
  have d3 := hd (j + 1 + 1)
  have n1 := hd.nn (i + 1)
  grind
def slowF (c : Nat → Rat) (a : Rat) (n : Nat) : Option Nat := (List.range n).foldl (fun o i => if !decide (c i < a) then some i else o) none
theorem slowF_ok (c : Nat → Rat) (a : Rat) : ∀ n, match slowF c a n with
    | none => ∀ i, i < n → c i < a
    | some j => j < n ∧ a ≤ c j ∧ ∀ i, j < i → i < n → c i < a
  | 0 => fun i hi => by omega
  | n + 1 => by
    have ih := slowF_ok c a n
    have e : slowF c a (n + 1) = if !decide (c n < a) then some n else slowF c a n := by unfold slowF; rw [List.range_succ, List.foldl_append]; rfl
    rw [e]
    by_cases h : c n < a
    · rw [if_neg (by simpa using h)]
      cases e2 : slowF c a n with
      | none =>
        rw [e2] at ih
        intro i hi
        by_cases q : i = n
        · subst q; exact h
        · exact ih i (by omega)
      | some j =>
        rw [e2] at ih
        refine ⟨by have := ih.1; omega, ih.2.1, fun i h1 h2 => ?_⟩
        by_cases q : i = n
        · subst q; exact h
        · exact ih.2.2 i h1 (by omega)
    · rw [if_pos (by simpa using h)]
      exact ⟨Nat.lt_succ_self n, by grind, fun i h1 h2 => by omega⟩
theorem capOf_nil : capOf [] = 0 := rfl
theorem caps_get (lanes : List (List Seg)) (i : Nat) : (lanes.map capOf).getD i 0 = capOf (lanes.getD i []) := by
  rw [List.getD_eq_getElem?_getD, List.getD_eq_getElem?_getD, List.getElem?_map]
  cases lanes[i]? <;> rfl
theorem slowest_some {lanes : List (List Seg)} {a : Rat} {i : Nat} (h0 : 0 < a) (h : slowestL lanes a = some i) : i < lanes.length ∧ a ≤ (lanes.map capOf).getD i 0 ∧ (lanes.map capOf).getD (i + 1) 0 < a := by
  have q := slowF_ok (fun i => capOf (lanes.getD i [])) a lanes.length
  rw [show slowF (fun i => capOf (lanes.getD i [])) a lanes.length = some i from h] at q
  refine ⟨q.1, by rw [caps_get]; exact q.2.1, ?_⟩
  rw [caps_get]
  by_cases e : i + 1 < lanes.length
  · exact q.2.2 _ (Nat.lt_succ_self i) e
  · rw [List.getD_eq_getElem?_getD, List.getElem?_eq_none (by omega)]
    exact h0
theorem slowest_none {lanes : List (List Seg)} {a : Rat} {as : List Rat} (h0 : 0 < a) (h : slowestL lanes a = none) : ¬ Can (lanes.map capOf) (a :: as) := fun c => by
  have q := slowF_ok (fun i => capOf (lanes.getD i [])) a lanes.length
  rw [show slowF (fun i => capOf (lanes.getD i [])) a lanes.length = none from h] at q
  have := c 1 (by simp)
  rw [show rsum ((a :: as).take 1) = a + 0 from rfl, rsum_take, caps_get] at this
  have z : rsum ((lanes.map capOf).take 0) = 0 := rfl
  rw [z] at this
  by_cases e : 0 < lanes.length
  · have := q 0 e
    grind
  · rw [List.getD_eq_getElem?_getD, List.getElem?_eq_none (by omega)] at this
    have z2 : capOf (Option.getD none ([] : List Seg)) = 0 := rfl
    grind
end My

/-! The plan: what holds after each work. -/
namespace My
structure Row where
  w : Nat
  b : Nat
  st : Rat
  en : Rat
  deriving DecidableEq
def Wd.amt (W : Wd) (w : Nat) : Rat := ((W.am.getD w 0 : Nat) : Rat)
def Wd.slow (W : Wd) (lanes : List (List Seg)) (i : Nat) : List Seg := if i + 1 < lanes.length then lanes.getD (i + 1) [] else [W.idle]
def Wd.mom (W : Wd) (lanes : List (List Seg)) (i : Nat) (a : Rat) : Rat := switchM (lanes.getD i []) (W.slow lanes i) a
def Wd.used (W : Wd) (lanes : List (List Seg)) (i : Nat) (a : Rat) : List Seg := joinL (laneB (lanes.getD i []) 0 (W.mom lanes i a)) (laneB (W.slow lanes i) (W.mom lanes i a) (W.L : Rat))
def Wd.rest (W : Wd) (lanes : List (List Seg)) (i : Nat) (a : Rat) : List Seg := joinL (laneB (W.slow lanes i) 0 (W.mom lanes i a)) (laneB (lanes.getD i []) (W.mom lanes i a) (W.L : Rat))
def Wd.next (W : Wd) (lanes : List (List Seg)) (i : Nat) (a : Rat) : List (List Seg) := lanes.take i ++ [W.rest lanes i a] ++ lanes.drop (i + 2)
def rowsOf (w : Nat) (used : List Seg) : List Row := used.filterMap fun s => s.ow.map fun k => ⟨w, k, s.op, s.cl⟩
def Wd.go (W : Wd) : List Nat → List (List Seg) → List Row → Option (List Row)
  | [], _, found => some found
  | w :: ws, lanes, found => match slowestL lanes (W.amt w) with
    | none => none
    | some i => W.go ws (W.next lanes i (W.amt w)) (found ++ rowsOf w (W.used lanes i (W.amt w)))
def Wd.spQ (W : Wd) : List Rat := W.sp.map fun n => ((n : Nat) : Rat)
def Wd.amQ (W : Wd) : List Rat := W.am.map fun n => ((n : Nat) : Rat)
def Wd.lanes0 (W : Wd) : List (List Seg) := (descL W.spQ).map fun k => [⟨0, (W.L : Rat), W.rt (some k), some k⟩]
def Wd.plan (W : Wd) : Option (List Row) := W.go (descL W.amQ) W.lanes0 []
/-! ### rows -/
def Row.apart (r q : Row) : Prop := ¬ ((q.w = r.w ∨ q.b = r.b) ∧ r.st < q.en ∧ q.st < r.en)
def Row.con (W : Wd) (r : Row) : Rat := W.rt (some r.b) * (r.en - r.st)
def doneR (W : Wd) (w : Nat) (rows : List Row) : Rat := rsum ((rows.filter fun r => r.w == w).map (Row.con W))
def rAt (k : Nat) (t : Rat) (r : Row) : Nat := if r.b = k ∧ r.st ≤ t ∧ t < r.en then 1 else 0
def rowAt (k : Nat) (t : Rat) : List Row → Nat
  | [] => 0
  | r :: rs => rAt k t r + rowAt k t rs
theorem rowAt_append (k : Nat) (t : Rat) (a b : List Row) : rowAt k t (a ++ b) = rowAt k t a + rowAt k t b := by
  induction a with
  | nil => exact (Nat.zero_add _).symm
  | cons s r ih => show rAt k t s + rowAt k t (r ++ b) = rAt k t s + rowAt k t r + rowAt k t b; rw [ih]; omega
theorem rowAt_mem {k : Nat} {t : Rat} {rows : List Row} {r : Row} (h : r ∈ rows) (h1 : r.b = k) (h2 : r.st ≤ t) (h3 : t < r.en) : 1 ≤ rowAt k t rows := by
  induction rows with
  | nil => simp at h
  | cons s l ih =>
    rcases List.mem_cons.mp h with rfl | h
    · have : rAt k t r = 1 := if_pos ⟨h1, h2, h3⟩
      show 1 ≤ rAt k t r + rowAt k t l
      omega
    · have := ih h
      show 1 ≤ rAt k t s + rowAt k t l
      omega
theorem rowsOf_cons (w : Nat) (s : Seg) (u : List Seg) : rowsOf w (s :: u) = (match s.ow with | none => [] | some k => [⟨w, k, s.op, s.cl⟩]) ++ rowsOf w u := by
  unfold rowsOf
  rw [List.filterMap_cons]
  cases s.ow <;> rfl
theorem rowsOf_len (w : Nat) (u : List Seg) : (rowsOf w u).length = nsum real u := by
  induction u with
  | nil => rfl
  | cons s r ih =>
    rw [rowsOf_cons, List.length_append, ih]
    show _ = real s + nsum real r
    congr 1
    unfold real
    cases s.ow with
    | none => rfl
    | some k => rfl
theorem rowsOf_at (w : Nat) (u : List Seg) (k : Nat) (t : Rat) : rowAt k t (rowsOf w u) = nsum (atk k t) u := by
  induction u with
  | nil => rfl
  | cons s r ih =>
    rw [rowsOf_cons, rowAt_append, ih]
    show _ = atk k t s + nsum _ r
    congr 1
    unfold atk
    cases s.ow with
    | none => rw [if_neg (fun h => by cases h.1)]; rfl
    | some j =>
      show rAt k t ⟨w, j, s.op, s.cl⟩ + 0 = _
      unfold rAt
      simp only [Option.some.injEq, Nat.add_zero]
theorem rowsOf_mem {w : Nat} {u : List Seg} {r : Row} (h : r ∈ rowsOf w u) : ∃ s ∈ u, s.ow = some r.b ∧ r.w = w ∧ r.st = s.op ∧ r.en = s.cl := by
  obtain ⟨s, hs, e⟩ := List.mem_filterMap.mp h
  cases e2 : s.ow with
  | none => rw [e2] at e; cases e
  | some k =>
    rw [e2] at e
    have : r = ⟨w, k, s.op, s.cl⟩ := (Option.some.inj e).symm
    subst this
    exact ⟨s, hs, e2, rfl, rfl, rfl⟩
theorem rowsOf_apart (w : Nat) : ∀ {u : List Seg} {a b : Rat}, Chn a u b → (rowsOf w u).Pairwise Row.apart
  | [], a, b, h => List.Pairwise.nil
  | s :: u, a, b, ⟨h1, h2, h3⟩ => by
    rw [rowsOf_cons]
    have ih := rowsOf_apart w h3
    cases s.ow with
    | none => exact ih
    | some k =>
      refine List.Pairwise.cons (fun q hq => ?_) ih
      obtain ⟨x, hx, _, _, e1, e2⟩ := rowsOf_mem hq
      have := Chn.mem h3 x hx
      rintro ⟨_, z1, z2⟩
      rw [e1] at z2
      have : s.cl ≤ x.op := this.1
      have z3 : x.op < s.cl := z2
      grind
theorem doneR_append (W : Wd) (w : Nat) (a b : List Row) : doneR W w (a ++ b) = doneR W w a + doneR W w b := by
  unfold doneR
  rw [List.filter_append, List.map_append, rsum_append]
theorem doneR_rows {W : Wd} {x w : Nat} {u : List Seg} (h : ∀ s ∈ u, s.rate = W.rt s.ow) : doneR W w (rowsOf x u) = if w = x then capOf u else 0 := by
  induction u with
  | nil => show (0 : Rat) = if w = x then 0 else 0; split <;> rfl
  | cons s r ih =>
    rw [rowsOf_cons, doneR_append, ih fun y hy => h y (List.mem_cons_of_mem _ hy)]
    have hs := h s List.mem_cons_self
    have ec : capOf (s :: r) = content s + capOf r := by rw [capOf_eq, capOf_eq]; rfl
    rw [ec]
    unfold content
    rw [hs]
    cases s.ow with
    | none =>
      show (0 : Rat) + _ = if w = x then 0 * (s.cl - s.op) + capOf r else 0
      split <;> grind
    | some k =>
      by_cases e : w = x
      · subst e
        rw [if_pos rfl, if_pos rfl]
        unfold doneR
        simp [Row.con, rsum]
        grind
      · rw [if_neg e, if_neg e]
        unfold doneR
        have : (x == w) = false := by simpa using fun z => e z.symm
        simp [this, rsum]
        grind
/-! ### sums over lanes -/
def lsum (f : List Seg → Nat) : List (List Seg) → Nat
  | [] => 0
  | l :: r => f l + lsum f r
theorem lsum_append (f : List Seg → Nat) (a b : List (List Seg)) : lsum f (a ++ b) = lsum f a + lsum f b := by
  induction a with
  | nil => exact (Nat.zero_add _).symm
  | cons s r ih => show f s + lsum f (r ++ b) = f s + lsum f r + lsum f b; rw [ih]; omega
theorem lsum_two (f : List Seg → Nat) {lanes : List (List Seg)} {i : Nat} (h : i + 1 < lanes.length) : lsum f lanes = lsum f (lanes.take i) + f (lanes.getD i []) + f (lanes.getD (i + 1) []) + lsum f (lanes.drop (i + 2)) := by
  have e : lanes = lanes.take i ++ (lanes.getD i [] :: lanes.getD (i + 1) [] :: lanes.drop (i + 2)) := by
    rw [List.getD_eq_getElem?_getD, List.getD_eq_getElem?_getD, List.getElem?_eq_getElem (by omega), List.getElem?_eq_getElem h]
    show lanes = lanes.take i ++ (lanes[i] :: lanes[i + 1] :: lanes.drop (i + 2))
    rw [← List.drop_eq_getElem_cons, ← List.drop_eq_getElem_cons, List.take_append_drop]
  have q := congrArg (lsum f) e
  rw [lsum_append] at q
  have q2 : lsum f (lanes.getD i [] :: lanes.getD (i + 1) [] :: lanes.drop (i + 2)) = f (lanes.getD i []) + (f (lanes.getD (i + 1) []) + lsum f (lanes.drop (i + 2))) := rfl
  omega
theorem lsum_one (f : List Seg → Nat) {lanes : List (List Seg)} {i : Nat} (h : i + 1 = lanes.length) : lsum f lanes = lsum f (lanes.take i) + f (lanes.getD i []) ∧ lanes.drop (i + 2) = [] := by
  have e : lanes = lanes.take i ++ [lanes.getD i []] := by
    rw [List.getD_eq_getElem?_getD, List.getElem?_eq_getElem (by omega)]
    show lanes = lanes.take i ++ [lanes[i]]
    rw [← List.drop_of_length_le (i := i + 1) (Nat.le_of_eq h.symm), ← List.drop_eq_getElem_cons, List.take_append_drop]
  have q := congrArg (lsum f) e
  rw [lsum_append] at q
  have q2 : lsum f [lanes.getD i []] = f (lanes.getD i []) + 0 := rfl
  exact ⟨by omega, List.drop_eq_nil_of_le (by omega)⟩
theorem lsum_next (f : List Seg → Nat) (W : Wd) (lanes : List (List Seg)) (i : Nat) (a : Rat) : lsum f (W.next lanes i a) = lsum f (lanes.take i) + f (W.rest lanes i a) + lsum f (lanes.drop (i + 2)) := by
  unfold Wd.next
  rw [lsum_append, lsum_append]
  rfl
theorem caps_next {W : Wd} {lanes : List (List Seg)} {i : Nat} {a : Rat} (h : capOf (W.rest lanes i a) = capOf (lanes.getD i []) + capOf (W.slow lanes i) - a) : (W.next lanes i a).map capOf = putC (lanes.map capOf) i a := by
  unfold Wd.next putC
  rw [List.map_append, List.map_append, List.map_take, List.map_drop, caps_get, caps_get, List.map_cons, List.map_nil, h]
  have : capOf (W.slow lanes i) = capOf (lanes.getD (i + 1) []) := by
    unfold Wd.slow
    by_cases e : i + 1 < lanes.length
    · rw [if_pos e]
    · rw [if_neg e, capOf_idle, List.getD_eq_getElem?_getD, List.getElem?_eq_none (by omega)]
      rfl
  rw [this]
/-! ### what holds after each work -/
structure Inv (W : Wd) (dn : List Nat) (lanes : List (List Seg)) (found : List Row) : Prop where
  dd : ∃ D, D ≠ 0 ∧ D ≤ 2 ^ (64 * dn.length) ∧ (∀ lane ∈ lanes, LnOk W D lane) ∧ ∀ r ∈ found, Ovr D r.st ∧ Ovr D r.en
  caps : Desc (lanes.map capOf)
  len : lsum List.length lanes ≤ W.sp.length + dn.length
  cnt : ∀ k t, lsum (nsum (atk k t)) lanes + rowAt k t found ≤ 1
  pw : found.Pairwise Row.apart
  rg : ∀ r ∈ found, r.w ∈ dn ∧ r.b < W.sp.length ∧ 0 ≤ r.st ∧ r.st < r.en ∧ r.en ≤ (W.L : Rat)
  done : ∀ w, doneR W w found = if w ∈ dn then W.amt w else 0
  pot : found.length + lsum (fun l => max (nsum real l) 1) lanes + lanes.length ≤ 2 * W.lanes0.length + dn.length
  ne : 0 < W.lanes0.length → 0 < lanes.length
theorem lsum_mem {lanes : List (List Seg)} {l : List Seg} (h : l ∈ lanes) (f : List Seg → Nat) : f l ≤ lsum f lanes := by
  induction lanes with
  | nil => simp at h
  | cons x r ih =>
    rcases List.mem_cons.mp h with rfl | h
    · exact Nat.le_add_right _ _
    · exact Nat.le_trans (ih h) (Nat.le_add_left _ _)
theorem getD_mem {α : Type} {l : List α} {i : Nat} (h : i < l.length) (d : α) : l.getD i d ∈ l := by
  rw [List.getD_eq_getElem?_getD, List.getElem?_eq_getElem h]
  exact List.getElem_mem h
theorem dok {D n : Nat} (h0 : D ≠ 0) (h : D ≤ 2 ^ (64 * n)) (hn : n ≤ 46) : DOk D := ⟨h0, Nat.lt_of_le_of_lt (Nat.le_trans h (Nat.pow_le_pow_right (by decide) (Nat.mul_le_mul_left 64 hn))) (by decide)⟩
theorem slow_ok {W : Wd} {D : Nat} {lanes : List (List Seg)} (w : W.Ok) (h : ∀ lane ∈ lanes, LnOk W D lane) (i : Nat) : LnOk W D (W.slow lanes i) := by
  unfold Wd.slow
  by_cases e : i + 1 < lanes.length
  · rw [if_pos e]; exact h _ (getD_mem e [])
  · rw [if_neg e]; exact idle_ok w D
theorem Inv.pair {W : Wd} {dn : List Nat} {lanes : List (List Seg)} {found : List Row} (w : W.Ok) (h : Inv W dn lanes found) (hn : dn.length ≤ 45) {x i : Nat} (h0 : 0 < W.amt x) (e : slowestL lanes (W.amt x) = some i) :
    ∃ D e, 0 < e ∧ e ≤ 2 ^ 64 ∧ D ≠ 0 ∧ D ≤ 2 ^ (64 * dn.length) ∧ (∀ lane ∈ lanes, LnOk W D lane) ∧ (∀ r ∈ found, Ovr D r.st ∧ Ovr D r.en) ∧ PairOk W (D * e) (lanes.getD i []) (W.slow lanes i) (W.amt x) (W.used lanes i (W.amt x)) (W.rest lanes i (W.amt x)) := by
  obtain ⟨D, d0, d1, hl, hr⟩ := h.dd
  obtain ⟨s1, s2, s3⟩ := slowest_some h0 e
  have ok1 := hl _ (getD_mem s1 [])
  have ok2 := slow_ok w hl i
  have c1 : capOf (W.slow lanes i) < W.amt x := by
    unfold Wd.slow
    by_cases q : i + 1 < lanes.length
    · rw [if_pos q, ← caps_get]; exact s3
    · rw [if_neg q, capOf_idle]; exact h0
  have c2 : W.amt x ≤ capOf (lanes.getD i []) := by rw [← caps_get]; exact s2
  have ov : Ovr D (W.amt x) := ⟨(W.am.getD x 0 * D : Nat), by unfold Wd.amt; rw [Rat.intCast_natCast, Rat.natCast_mul]⟩
  obtain ⟨e, e0, e1, p⟩ := pair_ok w (dok d0 d1 (by omega)) ok1 ok2 c1 c2 ov
  exact ⟨D, e, e0, e1, d0, d1, hl, hr, p⟩
theorem Inv.step {W : Wd} {dn : List Nat} {lanes : List (List Seg)} {found : List Row} (w : W.Ok) (h : Inv W dn lanes found) (hn : dn.length ≤ 45) {x i : Nat} (hx : x ∉ dn) (h0 : 0 < W.amt x) (e : slowestL lanes (W.amt x) = some i) :
    Inv W (dn ++ [x]) (W.next lanes i (W.amt x)) (found ++ rowsOf x (W.used lanes i (W.amt x))) := by
  obtain ⟨D, e', e0, e1, d0, d1, hl, hr, p⟩ := h.pair w hn h0 e
  obtain ⟨s1, s2, s3⟩ := slowest_some h0 e
  have hlen : (dn ++ [x]).length = dn.length + 1 := by simp
  have hcnt : ∀ k t, lsum (nsum (atk k t)) (W.next lanes i (W.amt x)) + rowAt k t (found ++ rowsOf x (W.used lanes i (W.amt x))) ≤ 1 := fun k t => by
    have q := h.cnt k t
    have q2 := p.at_ k t
    rw [lsum_next, rowAt_append, rowsOf_at]
    by_cases c : i + 1 < lanes.length
    · rw [lsum_two _ c] at q
      have : W.slow lanes i = lanes.getD (i + 1) [] := if_pos c
      rw [this] at q2
      omega
    · obtain ⟨l1, l2⟩ := lsum_one (nsum (atk k t)) (lanes := lanes) (i := i) (by omega)
      rw [l1] at q
      have : W.slow lanes i = [W.idle] := if_neg c
      rw [this, at_idle] at q2
      rw [l2]
      show _ + 0 + _ ≤ 1
      omega
  refine ⟨⟨D * e', Nat.mul_ne_zero d0 (by omega), ?_, ?_, ?_⟩, ?_, ?_, hcnt, ?_, ?_, ?_, ?_, ?_⟩
  · rw [hlen, Nat.mul_add, Nat.pow_add]
    exact Nat.mul_le_mul d1 e1
  · intro lane hm
    unfold Wd.next at hm
    rcases List.mem_append.mp hm with hm | hm
    · rcases List.mem_append.mp hm with hm | hm
      · exact (hl lane (List.mem_of_mem_take hm)).up
      · have : lane = W.rest lanes i (W.amt x) := by simpa using hm
        rw [this]
        exact p.r
    · exact (hl lane (List.mem_of_mem_drop hm)).up
  · intro r hm
    rcases List.mem_append.mp hm with hm | hm
    · exact ⟨(hr r hm).1.up, (hr r hm).2.up⟩
    · obtain ⟨s, hs, _, _, f1, f2⟩ := rowsOf_mem hm
      rw [f1, f2]
      exact ⟨(p.u.sg s hs).1, (p.u.sg s hs).2.1⟩
  · rw [caps_next p.cr]
    exact desc_put (by rw [List.length_map]; exact s1) h.caps h0 s2 s3
  · rw [lsum_next, hlen]
    have q := h.len
    have q2 := p.lr
    by_cases c : i + 1 < lanes.length
    · rw [lsum_two _ c] at q
      have : W.slow lanes i = lanes.getD (i + 1) [] := if_pos c
      rw [this] at q2
      omega
    · obtain ⟨l1, l2⟩ := lsum_one List.length (lanes := lanes) (i := i) (by omega)
      rw [l1] at q
      have : W.slow lanes i = [W.idle] := if_neg c
      rw [this] at q2
      rw [l2]
      have q3 : [W.idle].length = 1 := rfl
      show _ + 0 ≤ _
      omega
  · refine List.pairwise_append.mpr ⟨h.pw, rowsOf_apart x p.u.ch, fun r hr2 q hq => ?_⟩
    rintro ⟨hor, o1, o2⟩
    obtain ⟨s, hs, f0, f1, f2, f3⟩ := rowsOf_mem hq
    have rr := h.rg r hr2
    have hb : q.b = r.b := by
      rcases hor with z | z
      · exact absurd (by rw [← f1, z]; exact rr.1) hx
      · exact z
    have ss := p.u.ch.mem s hs
    have hq2 : q.st < q.en := by rw [f2, f3]; exact ss.2.1
    have rr2 : r.st < r.en := rr.2.2.2.1
    have key : ∀ t, r.st ≤ t → t < r.en → q.st ≤ t → t < q.en → False := fun t t1 t2 t3 t4 => by
      have a1 := rowAt_mem hr2 rfl t1 t2
      have a2 := rowAt_mem hq hb t3 t4
      have := hcnt r.b t
      rw [rowAt_append] at this
      omega
    by_cases c : r.st ≤ q.st
    · exact key q.st c o2 Rat.le_refl hq2
    · exact key r.st Rat.le_refl rr2 (by grind) o1
  · intro r hm
    rcases List.mem_append.mp hm with hm | hm
    · obtain ⟨a, b⟩ := h.rg r hm
      exact ⟨List.mem_append_left _ a, b⟩
    · obtain ⟨s, hs, f0, f1, f2, f3⟩ := rowsOf_mem hm
      have ss := p.u.ch.mem s hs
      rw [f1, f2, f3]
      exact ⟨by simp, (p.u.sg s hs).2.2.2 _ f0, ss.1, ss.2.1, ss.2.2⟩
  · intro v
    rw [doneR_append, doneR_rows fun s hs => (p.u.sg s hs).2.2.1, h.done v, p.cu]
    by_cases c : v = x
    · subst c
      rw [if_pos rfl, if_neg hx, if_pos (by simp)]
      grind
    · rw [if_neg c]
      have : (v ∈ dn ++ [x]) ↔ v ∈ dn := by simp [c]
      by_cases c2 : v ∈ dn
      · rw [if_pos c2, if_pos (this.mpr c2)]
        grind
      · rw [if_neg c2, if_neg fun z => c2 (this.mp z)]
        grind
  · rw [lsum_next, List.length_append, rowsOf_len, hlen]
    have q := h.pot
    have ln : (W.next lanes i (W.amt x)).length = min i lanes.length + 1 + (lanes.length - (i + 2)) := by
      unfold Wd.next
      simp only [List.length_append, List.length_take, List.length_singleton, List.length_drop]
    by_cases c : i + 1 < lanes.length
    · rw [lsum_two _ c] at q
      have : W.slow lanes i = lanes.getD (i + 1) [] := if_pos c
      have q2 := p.p2
      rw [this] at q2
      omega
    · obtain ⟨l1, l2⟩ := lsum_one (fun l => max (nsum real l) 1) (lanes := lanes) (i := i) (by omega)
      rw [l1] at q
      have : W.slow lanes i = [W.idle] := if_neg c
      have q2 := p.p1
      rw [this] at q2
      have q3 := q2 rfl
      rw [l2]
      have z : lsum (fun l => max (nsum real l) 1) [] = 0 := rfl
      omega
  · intro hz
    unfold Wd.next
    simp only [List.length_append, List.length_singleton]
    omega
end My

/-! The order, the start, the end. -/
namespace My
section
variable {values : List Rat}
theorem insAt_spec (order : List Nat) (x : Rat) : ∀ n, (∀ j, insAt values order x n ≤ j → j < n → values.getD (order.getD j 0) 0 < x) ∧ (insAt values order x n ≠ 0 → ¬ values.getD (order.getD (insAt values order x n - 1) 0) 0 < x)
  | 0 => ⟨fun j h1 h2 => by omega, fun h => absurd rfl h⟩
  | n + 1 => by
    have ih := insAt_spec order x n
    have e : insAt values order x (n + 1) = if decide (values.getD (order.getD n 0) 0 < x) then insAt values order x n else n + 1 := rfl
    by_cases c : values.getD (order.getD n 0) 0 < x
    · rw [e, if_pos (decide_eq_true c)]
      refine ⟨fun j h1 h2 => ?_, ih.2⟩
      by_cases q : j = n
      · subst q; exact c
      · exact ih.1 j h1 (by omega)
    · rw [e, if_neg (by simpa using c)]
      exact ⟨fun j h1 h2 => by omega, fun _ => by rw [Nat.add_sub_cancel]; exact c⟩
def SD (values : List Rat) (order : List Nat) : Prop := order.Pairwise fun i j => values.getD j 0 ≤ values.getD i 0
theorem getD_at {l : List Nat} {j : Nat} (h : j < l.length) : l.getD j 0 = l[j] := by
  rw [List.getD_eq_getElem?_getD, List.getElem?_eq_getElem h]
  rfl
theorem insL_ok {order : List Nat} {i : Nat} (h : SD values order) (hn : order.Nodup) (hi : ∀ j ∈ order, j < i) : SD values (insL values order i) ∧ (insL values order i).Nodup ∧ ∀ j, j ∈ insL values order i ↔ j ∈ order ∨ (j = i ∧ 0 < values.getD i 0) := by
  unfold insL
  simp only
  by_cases c : 0 < values.getD i 0
  · rw [if_pos (decide_eq_true c)]
    have sp := insAt_spec (values := values) order (values.getD i 0) order.length
    have le := insAt_le values order (values.getD i 0) order.length
    generalize insAt values order (values.getD i 0) order.length = p at *
    have h1 : SD values (order.take p ++ order.drop p) := by rw [List.take_append_drop]; exact h
    have hn1 : (order.take p ++ order.drop p).Nodup := by rw [List.take_append_drop]; exact hn
    obtain ⟨a1, a2, a3⟩ := List.pairwise_append.mp h1
    obtain ⟨b1, b2, b3⟩ := List.nodup_append.mp hn1
    have hd : ∀ b ∈ order.drop p, values.getD b 0 < values.getD i 0 := fun b hb => by
      obtain ⟨j, hj, e⟩ := List.getElem_of_mem hb
      rw [List.length_drop] at hj
      rw [List.getElem_drop] at e
      have := sp.1 (p + j) (Nat.le_add_right _ _) (by omega)
      rw [getD_at (show p + j < order.length by omega), e] at this
      exact this
    have ht : ∀ a ∈ order.take p, values.getD i 0 ≤ values.getD a 0 := fun a ha => by
      obtain ⟨j, hj, e⟩ := List.getElem_of_mem ha
      rw [List.length_take] at hj
      rw [List.getElem_take] at e
      have hp : p ≠ 0 := by omega
      have l1 := sp.2 hp
      have hpl : p - 1 < order.length := by omega
      rw [getD_at hpl] at l1
      have l2 : ¬ values.getD order[p - 1] 0 < values.getD i 0 := l1
      have l3 : values.getD order[p - 1] 0 ≤ values.getD order[j] 0 := by
        by_cases q : j = p - 1
        · subst q; exact Rat.le_refl
        · exact List.pairwise_iff_getElem.mp h j (p - 1) (by omega) hpl (by omega)
      rw [e] at l3
      grind
    refine ⟨List.pairwise_append.mpr ⟨List.pairwise_append.mpr ⟨a1, List.pairwise_singleton _ _, fun a ha b hb => ?_⟩, a2, fun a ha b hb => ?_⟩, ?_, fun j => ?_⟩
    · have : b = i := by simpa using hb
      subst this
      exact ht a ha
    · rcases List.mem_append.mp ha with ha | ha
      · exact a3 a ha b hb
      · have : a = i := by simpa using ha
        subst this
        exact Rat.le_of_lt (hd b hb)
    · refine List.nodup_append.mpr ⟨List.nodup_append.mpr ⟨b1, by simp, fun a ha b hb => ?_⟩, b2, fun a ha b hb => ?_⟩
      · have : b = i := by simpa using hb
        have := hi a (List.mem_of_mem_take ha)
        omega
      · rcases List.mem_append.mp ha with ha | ha
        · exact b3 a ha b hb
        · have : a = i := by simpa using ha
          have := hi b (List.mem_of_mem_drop hb)
          omega
    · constructor
      · intro hj
        rcases List.mem_append.mp hj with hj | hj
        · rcases List.mem_append.mp hj with hj | hj
          · exact .inl (List.mem_of_mem_take hj)
          · exact .inr ⟨by simpa using hj, c⟩
        · exact .inl (List.mem_of_mem_drop hj)
      · rintro (hj | ⟨rfl, _⟩)
        · rw [← List.take_append_drop p order] at hj
          rcases List.mem_append.mp hj with hj | hj
          · exact List.mem_append_left _ (List.mem_append_left _ hj)
          · exact List.mem_append_right _ hj
        · simp
  · rw [if_neg (by simpa using c)]
    exact ⟨h, hn, fun j => ⟨.inl, fun z => z.elim id fun q => absurd q.2 c⟩⟩
theorem desc_ok : ∀ n, SD values ((List.range n).foldl (insL values) []) ∧ ((List.range n).foldl (insL values) []).Nodup ∧ ∀ j, j ∈ (List.range n).foldl (insL values) [] ↔ j < n ∧ 0 < values.getD j 0
  | 0 => ⟨List.Pairwise.nil, by simp, fun j => by simp⟩
  | n + 1 => by
    obtain ⟨a, b, c⟩ := desc_ok n
    rw [List.range_succ, List.foldl_append]
    obtain ⟨x, y, z⟩ := insL_ok (i := n) a b fun j hj => ((c j).mp hj).1
    refine ⟨x, y, fun j => ?_⟩
    rw [List.foldl_cons, List.foldl_nil, z j, c j]
    constructor
    · rintro (⟨h1, h2⟩ | ⟨rfl, h2⟩)
      · exact ⟨by omega, h2⟩
      · exact ⟨by omega, h2⟩
    · rintro ⟨h1, h2⟩
      by_cases q : j = n
      · subst q; exact .inr ⟨rfl, h2⟩
      · exact .inl ⟨by omega, h2⟩
theorem descL_sd : SD values (descL values) := (desc_ok values.length).1
theorem descL_nodup : (descL values).Nodup := (desc_ok values.length).2.1
theorem descL_mem (j : Nat) : j ∈ descL values ↔ j < values.length ∧ 0 < values.getD j 0 := (desc_ok values.length).2.2 j
end
theorem amQ_get (W : Wd) (j : Nat) : W.amQ.getD j 0 = W.amt j := by
  unfold Wd.amQ Wd.amt
  rw [List.getD_eq_getElem?_getD, List.getD_eq_getElem?_getD, List.getElem?_map]
  cases W.am[j]? <;> rfl
theorem spQ_get (W : Wd) (j : Nat) : W.spQ.getD j 0 = W.rt (some j) := by
  show (W.sp.map fun n => ((n : Nat) : Rat)).getD j 0 = ((W.sp.getD j 0 : Nat) : Rat)
  rw [List.getD_eq_getElem?_getD, List.getD_eq_getElem?_getD, List.getElem?_map]
  cases W.sp[j]? <;> rfl
theorem spQ_len (W : Wd) : W.spQ.length = W.sp.length := List.length_map _
theorem amQ_len (W : Wd) : W.amQ.length = W.am.length := List.length_map _
theorem lanes0_len (W : Wd) : W.lanes0.length = (descL W.spQ).length := List.length_map _
theorem descL_len (values : List Rat) : (descL values).length ≤ values.length := (descP values values.length).2
theorem cap0 (W : Wd) (k : Nat) : capOf [⟨0, (W.L : Rat), W.rt (some k), some k⟩] = W.rt (some k) * (W.L : Rat) := by
  rw [capOf_eq]
  show W.rt (some k) * ((W.L : Rat) - 0) + 0 = _
  grind
theorem natR (n : Nat) : (0 : Rat) ≤ (n : Rat) := Rat.natCast_nonneg
theorem inv0 {W : Wd} (w : W.Ok) : Inv W [] W.lanes0 [] := by
  have hl : (0 : Rat) < (W.L : Rat) := Rat.natCast_lt_natCast.mpr w.l0
  have hlen := descL_len W.spQ
  rw [spQ_len] at hlen
  have hmem : ∀ lane ∈ W.lanes0, ∃ k, k ∈ descL W.spQ ∧ lane = [⟨0, (W.L : Rat), W.rt (some k), some k⟩] := fun lane h => by
    obtain ⟨k, hk, e⟩ := List.mem_map.mp h
    exact ⟨k, hk, e.symm⟩
  have ls : ∀ (l : List Nat) (f : List Seg → Nat), (∀ k ∈ l, f [⟨0, (W.L : Rat), W.rt (some k), some k⟩] ≤ 1) → lsum f (l.map fun k => [⟨0, (W.L : Rat), W.rt (some k), some k⟩]) ≤ l.length := by
    intro l f
    induction l with
    | nil => intro _; exact Nat.le_refl _
    | cons k r ih =>
      intro h
      have h1 := h k List.mem_cons_self
      have h2 := ih fun x hx => h x (List.mem_cons_of_mem _ hx)
      exact Nat.le_trans (Nat.add_le_add h1 h2) (by rw [List.length_cons]; omega)
  refine ⟨⟨1, by decide, Nat.le_refl _, fun lane h => ?_, fun r hr => by simp at hr⟩, ?_, ?_, fun k t => ?_, List.Pairwise.nil, fun r hr => by simp at hr, fun v => ?_, ?_, fun h => h⟩
  · obtain ⟨k, hk, rfl⟩ := hmem lane h
    refine ⟨⟨rfl, hl, rfl⟩, fun s hs => ?_⟩
    have : s = ⟨0, (W.L : Rat), W.rt (some k), some k⟩ := by simpa using hs
    subst this
    refine ⟨⟨0, by show (0 : Rat) * _ = _; grind⟩, ⟨W.L, by show (W.L : Rat) * ((1 : Nat) : Rat) = ((W.L : Int) : Rat); rw [Rat.intCast_natCast]; grind⟩, rfl, fun j e => ?_⟩
    have : j = k := (Option.some.inj e).symm
    subst this
    have := ((descL_mem j).mp hk).1
    rw [spQ_len] at this
    exact this
  · intro i
    rw [caps_get, caps_get]
    unfold Wd.lanes0
    rw [List.getD_eq_getElem?_getD, List.getD_eq_getElem?_getD, List.getElem?_map, List.getElem?_map]
    cases e1 : (descL W.spQ)[i + 1]? with
    | none =>
      show (0 : Rat) ≤ _
      cases e2 : (descL W.spQ)[i]? with
      | none => exact Rat.le_refl
      | some a =>
        show 0 ≤ capOf [_]
        rw [cap0]
        exact Rat.mul_nonneg (natR _) (Rat.le_of_lt hl)
    | some b =>
      have hb := (List.getElem?_eq_some_iff.mp e1).1
      rw [List.getElem?_eq_getElem (show i < (descL W.spQ).length by omega)]
      show capOf [_] ≤ capOf [_]
      rw [cap0, cap0]
      have := List.pairwise_iff_getElem.mp (descL_sd (values := W.spQ)) i (i + 1) (by omega) hb (by omega)
      rw [(List.getElem?_eq_some_iff.mp e1).2, spQ_get, spQ_get] at this
      exact Rat.mul_le_mul_of_nonneg_right this (Rat.le_of_lt hl)
  · exact Nat.le_trans (ls _ _ fun k _ => Nat.le_refl _) hlen
  · show lsum _ ((descL W.spQ).map _) + 0 ≤ 1
    have : ∀ l : List Nat, l.Nodup → lsum (nsum (atk k t)) (l.map fun k => [⟨0, (W.L : Rat), W.rt (some k), some k⟩]) ≤ if k ∈ l then 1 else 0 := by
      intro l
      induction l with
      | nil => intro _; exact Nat.zero_le _
      | cons x r ih =>
        intro hn
        obtain ⟨n1, n2⟩ := List.nodup_cons.mp hn
        have := ih n2
        show atk k t ⟨0, (W.L : Rat), W.rt (some x), some x⟩ + 0 + lsum _ (r.map _) ≤ _
        by_cases q : x = k
        · subst q
          rw [if_neg n1] at this
          rw [if_pos List.mem_cons_self]
          have : atk x t ⟨0, (W.L : Rat), W.rt (some x), some x⟩ ≤ 1 := by unfold atk; split <;> simp
          omega
        · have z : atk k t ⟨0, (W.L : Rat), W.rt (some x), some x⟩ = 0 := if_neg fun h => q (Option.some.inj h.1)
          have z2 : (k ∈ x :: r) ↔ k ∈ r := ⟨fun h => (List.mem_cons.mp h).elim (fun e => absurd e.symm q) id, List.mem_cons_of_mem _⟩
          rw [z]
          by_cases q2 : k ∈ r
          · rw [if_pos q2] at this
            rw [if_pos (z2.mpr q2)]
            omega
          · rw [if_neg q2] at this
            rw [if_neg fun h => q2 (z2.mp h)]
            omega
    have h := this _ (descL_nodup (values := W.spQ))
    split at h <;> omega
  · show (0 : Rat) = _
    rw [if_neg (by simp)]
  · have := ls (descL W.spQ) (fun l => max (nsum real l) 1) fun k _ => Nat.le_refl _
    have e := lanes0_len W
    show 0 + lsum _ W.lanes0 + W.lanes0.length ≤ 2 * W.lanes0.length + 0
    have : lsum (fun l => max (nsum real l) 1) W.lanes0 ≤ (descL W.spQ).length := this
    omega
/-! ### the loop -/
theorem amt_pos {W : Wd} {x : Nat} (h : x ∈ descL W.amQ) : 0 < W.amt x := by rw [← amQ_get]; exact ((descL_mem x).mp h).2
theorem go_ok {W : Wd} (w : W.Ok) : ∀ (rem dn : List Nat) (lanes : List (List Seg)) (found : List Row), descL W.amQ = dn ++ rem → Inv W dn lanes found →
    match W.go rem lanes found with
    | none => ¬ Can (lanes.map capOf) (rem.map W.amt)
    | some res => Can (lanes.map capOf) (rem.map W.amt) ∧ ∃ lanes', Inv W (descL W.amQ) lanes' res
  | [], dn, lanes, found, e, h => ⟨fun k hk => by
      have : k = 0 := by simpa using hk
      subst this
      exact Rat.le_refl, lanes, by rw [e, List.append_nil]; exact h⟩
  | x :: rem, dn, lanes, found, e, h => by
    have hx : x ∈ descL W.amQ := by rw [e]; simp
    have h0 := amt_pos hx
    have hnd := descL_nodup (values := W.amQ)
    have hsd := descL_sd (values := W.amQ)
    have hln := descL_len W.amQ
    rw [amQ_len] at hln
    have hal := w.al
    rw [e] at hnd hsd hln
    obtain ⟨_, n2, n3⟩ := List.nodup_append.mp hnd
    have hxd : x ∉ dn := fun z => n3 x z x List.mem_cons_self rfl
    have hdl : dn.length ≤ 45 := by rw [List.length_append] at hln; omega
    have ego : W.go (x :: rem) lanes found = match slowestL lanes (W.amt x) with
      | none => none
      | some i => W.go rem (W.next lanes i (W.amt x)) (found ++ rowsOf x (W.used lanes i (W.amt x))) := rfl
    rw [ego]
    cases es : slowestL lanes (W.amt x) with
    | none => exact slowest_none h0 es
    | some i =>
      have ih := go_ok w rem (dn ++ [x]) _ _ (by rw [e]; simp) (h.step w hdl hxd h0 es)
      obtain ⟨D, e', e0, e1, d0, d1, hl, hr, p⟩ := h.pair w hdl h0 es
      obtain ⟨s1, s2, s3⟩ := slowest_some h0 es
      rw [caps_next p.cr] at ih
      have hle : ∀ a ∈ rem.map W.amt, a ≤ W.amt x := fun a ha => by
        obtain ⟨j, hj, rfl⟩ := List.mem_map.mp ha
        have := (List.pairwise_cons.mp (List.pairwise_append.mp hsd).2.1).1 j hj
        rw [amQ_get, amQ_get] at this
        exact this
      have cs := can_step (as := rem.map W.amt) (by rw [List.length_map]; exact s1) h.caps s2 hle
      show match W.go rem _ _ with
        | none => ¬ Can (lanes.map capOf) (W.amt x :: rem.map W.amt)
        | some res => Can (lanes.map capOf) (W.amt x :: rem.map W.amt) ∧ ∃ lanes', Inv W (descL W.amQ) lanes' res
      cases eg : W.go rem (W.next lanes i (W.amt x)) (found ++ rowsOf x (W.used lanes i (W.amt x))) with
      | none =>
        rw [eg] at ih
        exact fun c => ih (cs.mp c)
      | some res =>
        rw [eg] at ih
        exact ⟨cs.mpr ih.1, ih.2⟩
theorem plan_ok {W : Wd} (w : W.Ok) : match W.plan with
    | none => ¬ Can (W.lanes0.map capOf) ((descL W.amQ).map W.amt)
    | some res => Can (W.lanes0.map capOf) ((descL W.amQ).map W.amt) ∧ ∃ lanes', Inv W (descL W.amQ) lanes' res := go_ok w (descL W.amQ) [] W.lanes0 [] rfl (inv0 w)
end My

/-! The law's test of what can be done; the answers' sums. -/
namespace My
def topS (ns : List Nat) (k : Nat) : Nat := ((sdL ns).take k).sum
theorem perm_nodup : ∀ {a b : List Nat}, a.Nodup → b.Nodup → (∀ x, x ∈ a ↔ x ∈ b) → a.Perm b
  | [], b, _, hb, h => by
    have : b = [] := List.eq_nil_iff_forall_not_mem.mpr fun x hx => by simpa using (h x).mpr hx
    subst this
    exact .refl _
  | x :: a, b, ha, hb, h => by
    obtain ⟨n1, n2⟩ := List.nodup_cons.mp ha
    have hx : x ∈ b := (h x).mp List.mem_cons_self
    have ih := perm_nodup n2 (hb.erase x) fun y => by
      rw [hb.mem_erase_iff, ← h y, List.mem_cons]
      constructor
      · intro hy
        exact ⟨fun e => n1 (e ▸ hy), .inr hy⟩
      · rintro ⟨h1, h2 | h2⟩
        · exact absurd h2 h1
        · exact h2
    exact (ih.cons x).trans (List.perm_cons_erase hx).symm
/-- the values in the order of descL, then zeros -/
theorem sd_desc (ns : List Nat) : ∃ z : Nat, sdL ns = ((descL (ns.map fun n : Nat => (n : Rat))).map fun j => ns.getD j 0) ++ List.replicate z 0 := by
  generalize hq : (ns.map fun n : Nat => (n : Rat)) = q
  have hlen : q.length = ns.length := by rw [← hq, List.length_map]
  have hget : ∀ j, q.getD j 0 = ((ns.getD j 0 : Nat) : Rat) := fun j => by
    rw [← hq, List.getD_eq_getElem?_getD, List.getD_eq_getElem?_getD, List.getElem?_map]
    cases ns[j]? <;> rfl
  have hpos : ∀ j, 0 < q.getD j 0 ↔ 0 < ns.getD j 0 := fun j => by
    rw [hget]
    exact Rat.natCast_lt_natCast (a := 0)
  have p1 : (descL q).Perm ((List.range ns.length).filter fun j => decide (0 < ns.getD j 0)) := perm_nodup descL_nodup (List.nodup_range.filter _) fun j => by
    rw [descL_mem, List.mem_filter, List.mem_range, hlen, hpos, decide_eq_true_eq]
  have e1 : (List.range ns.length).map (fun j => ns.getD j 0) = ns := by
    refine List.ext_getElem? fun j => ?_
    rw [List.getElem?_map]
    by_cases hj : j < ns.length
    · rw [List.getElem?_range hj, List.getElem?_eq_getElem hj]
      show some (ns.getD j 0) = _
      rw [getD_at hj]
    · rw [List.getElem?_eq_none (by rw [List.length_range]; omega), List.getElem?_eq_none (by omega)]
      rfl
  have p2 : ((descL q).map fun j => ns.getD j 0).Perm (ns.filter fun n => decide (0 < n)) := by
    have := p1.map fun j => ns.getD j 0
    refine this.trans ?_
    have e2 : ((List.range ns.length).filter fun j => decide (0 < ns.getD j 0)).map (fun j => ns.getD j 0) = ns.filter fun n => decide (0 < n) := by
      conv => rhs; rw [← e1]
      rw [List.filter_map]
      rfl
    rw [e2]
  refine ⟨(ns.filter fun n => !decide (0 < n)).length, (sdL_eq ?_ ?_).symm⟩
  · have e3 : List.replicate (ns.filter fun n => !decide (0 < n)).length 0 = ns.filter fun n => !decide (0 < n) := by
      refine (List.eq_replicate_iff.mpr ⟨rfl, fun x hx => ?_⟩).symm
      have := (List.mem_filter.mp hx).2
      simp at this
      omega
    rw [e3]
    exact (p2.append_right _).trans (List.filter_append_perm _ _)
  · refine List.pairwise_append.mpr ⟨?_, ?_, fun a _ b hb => ?_⟩
    · rw [List.pairwise_map]
      exact (descL_sd (values := q)).imp fun {a b} h => by
        rw [hget, hget] at h
        exact Rat.natCast_le_natCast.mp h
    · rw [List.pairwise_replicate]
      exact .inr (Nat.le_refl _)
    · rw [(List.mem_replicate.mp hb).2]
      exact Nat.zero_le _
theorem rsum_cast (l : List Nat) : rsum (l.map fun n : Nat => (n : Rat)) = (l.sum : Rat) := by
  induction l with
  | nil => rfl
  | cons n r ih =>
    show (n : Rat) + rsum _ = _
    rw [ih, List.sum_cons, Rat.natCast_add]
theorem take_rep (l : List Nat) (z k : Nat) : ((l ++ List.replicate z 0).take k).sum = (l.take k).sum := by
  rw [List.take_append, List.sum_append, List.take_replicate, List.sum_replicate_nat]
  omega
theorem top_eq (ns : List Nat) (k : Nat) : (topS ns k : Rat) = rsum (((descL (ns.map fun n : Nat => (n : Rat))).map fun j => ((ns.getD j 0 : Nat) : Rat)).take k) := by
  obtain ⟨z, e⟩ := sd_desc ns
  unfold topS
  rw [e, take_rep, ← rsum_cast, List.map_take, List.map_map]
  rfl
theorem take_sum_mono (l : List Nat) {j k : Nat} (h : j ≤ k) : (l.take j).sum ≤ (l.take k).sum := by
  obtain ⟨d, rfl⟩ := Nat.exists_eq_add_of_le h
  rw [List.take_add, List.sum_append]
  exact Nat.le_add_right _ _
def canP (L : Nat) (sp am : List Nat) : Nat → Bool := fun i => decide (L * topS sp (i + 1) < topS am (i + 1))
def canB (L : Nat) (sp am : List Nat) : Bool := decide (((List.range am.length).filter (canP L sp am)).map (fun i => 1 + i) = [])
theorem canB_iff (L : Nat) (sp am : List Nat) : canB L sp am = true ↔ ∀ k, k < am.length → topS am (k + 1) ≤ L * topS sp (k + 1) := by
  unfold canB canP
  rw [decide_eq_true_eq, List.map_eq_nil_iff, List.filter_eq_nil_iff]
  constructor
  · intro h k hk
    have := h k (List.mem_range.mpr hk)
    simpa using this
  · intro h k hk
    have := h k (List.mem_range.mp hk)
    simpa using this
theorem caps_eq (W : Wd) : W.lanes0.map capOf = (descL W.spQ).map fun j => W.rt (some j) * (W.L : Rat) := by
  unfold Wd.lanes0
  rw [List.map_map]
  refine List.map_congr_left fun j _ => ?_
  exact cap0 W j
theorem rsum_scale (c : Rat) (l : List Rat) : rsum (l.map fun x => x * c) = rsum l * c := by
  induction l with
  | nil => show (0 : Rat) = 0 * c; grind
  | cons x r ih => show x * c + rsum _ = (x + rsum r) * c; rw [ih]; grind
theorem can_law (W : Wd) : Can (W.lanes0.map capOf) ((descL W.amQ).map W.amt) ↔ canB W.L W.sp W.am = true := by
  rw [canB_iff]
  have hA : ∀ k, rsum (((descL W.amQ).map W.amt).take k) = (topS W.am k : Rat) := fun k => (top_eq W.am k).symm
  have hC : ∀ k, rsum ((W.lanes0.map capOf).take k) = ((W.L * topS W.sp k : Nat) : Rat) := fun k => by
    rw [caps_eq, Rat.natCast_mul, top_eq W.sp k]
    have : ((descL W.spQ).map fun j => W.rt (some j) * (W.L : Rat)) = ((descL W.spQ).map fun j => W.rt (some j)).map fun x => x * (W.L : Rat) := by rw [List.map_map]; rfl
    rw [this, ← List.map_take, rsum_scale, Rat.mul_comm]
    rfl
  have hle : ∀ k, rsum (((descL W.amQ).map W.amt).take k) ≤ rsum ((W.lanes0.map capOf).take k) ↔ topS W.am k ≤ W.L * topS W.sp k := fun k => by
    rw [hA, hC]
    exact Rat.natCast_le_natCast
  have hln : (descL W.amQ).length ≤ W.am.length := by rw [← amQ_len]; exact descL_len _
  constructor
  · intro h k hk
    by_cases c : k + 1 ≤ ((descL W.amQ).map W.amt).length
    · exact (hle _).mp (h _ c)
    · have h0 := (hle _).mp (h _ (Nat.le_refl _))
      have e : topS W.am (k + 1) = topS W.am ((descL W.amQ).map W.amt).length := by
        have a1 := hA (k + 1)
        have a2 := hA ((descL W.amQ).map W.amt).length
        rw [List.take_of_length_le (by omega)] at a1
        rw [List.take_of_length_le (Nat.le_refl _)] at a2
        exact Rat.natCast_inj.mp (a1.symm.trans a2)
      rw [e]
      refine Nat.le_trans h0 (Nat.mul_le_mul_left _ ?_)
      exact take_sum_mono _ (by omega)
  · intro h k hk
    refine (hle k).mpr ?_
    cases k with
    | zero => exact Nat.zero_le _
    | succ k =>
      rw [List.length_map] at hk
      exact h k (by omega)
theorem plan_law {W : Wd} (w : W.Ok) : match W.plan with
    | none => canB W.L W.sp W.am = false
    | some res => canB W.L W.sp W.am = true ∧ ∃ lanes, Inv W (descL W.amQ) lanes res := by
  have h := plan_ok w
  cases e : W.plan with
  | none =>
    rw [e] at h
    exact Bool.eq_false_iff.mpr fun z => h ((can_law W).mpr z)
  | some res =>
    rw [e] at h
    exact ⟨(can_law W).mp h.1, h.2⟩
/-! ### what is done, work by work -/
theorem done_all {W : Wd} {lanes : List (List Seg)} {res : List Row} (h : Inv W (descL W.amQ) lanes res) (v : Nat) (hv : v < W.am.length) : doneR W v res = W.amt v := by
  rw [h.done v]
  by_cases c : v ∈ descL W.amQ
  · rw [if_pos c]
  · rw [if_neg c]
    have : ¬ 0 < W.amt v := fun z => c ((descL_mem v).mpr ⟨by rw [amQ_len]; exact hv, by rw [amQ_get]; exact z⟩)
    have h0 : (0 : Rat) ≤ W.amt v := natR _
    grind
theorem rows_most {W : Wd} {lanes : List (List Seg)} {res : List Row} (h : Inv W (descL W.amQ) lanes res) (hs : 0 < W.sp.length) : res.length ≤ W.am.length + 2 * (W.sp.length - 1) := by
  have hp := h.pot
  have hn := h.ne
  have h1 := lanes0_len W
  have h2 := descL_len W.spQ
  have h3 := descL_len W.amQ
  rw [spQ_len] at h2
  rw [amQ_len] at h3
  have h4 : lanes.length ≤ lsum (fun l => max (nsum real l) 1) lanes := by
    clear h hp hn h1 h2 h3 hs
    induction lanes with
    | nil => exact Nat.le_refl _
    | cons l r ih =>
      show r.length + 1 ≤ max (nsum real l) 1 + lsum _ r
      omega
  omega
end My

/-! The stretch. -/
namespace My
open PySem PySem.Spec PyProof.Rows L2
open He (ga ma)
def tRow (K : PySem.W.Frag) : Ty Row := ⟨fun r v G => ∃ p v3 v4, v = .ref p ∧ SqT K G p [.int (r.w : Int), .int (r.b : Int), v3, v4] ∧ (tFr K).rel r.st v3 G ∧ (tFr K).rel r.en v4 G,
  fun s ⟨p, v3, v4, e, h, r1, r2⟩ => ⟨p, v3, v4, e, sqt_mono s h, (tFr K).mono s r1, (tFr K).mono s r2⟩⟩
section
variable {M : Addr → Prop} {σ : SS} {G H : Hp} {K : PySem.W.Frag}
theorem ev_row {t1 t2 t3 t4 : TE} {r : Row} (h1 : EvT M t1 σ G H tNat r.w) (h2 : EvT M t2 σ G H tNat r.b) (h3 : EvT M t3 σ G H (tFr K) r.st) (h4 : EvT M t4 σ G H (tFr K) r.en) : EvT M (tTup (tCons t1 (tCons t2 (tCons t3 (tCons t4 tNil))))) σ G H (tRow K) r :=
  fun G1 H1 g Q k => h1 G1 H1 g _ fun v1 G2 H2 g2 r1 => h2 G2 H2 (g.trans g2.up) _ fun v2 G3 H3 g3 r2 => h3 G3 H3 ((g.trans g2.up).trans g3.up) _ fun v3 G4 H4 g4 r3 => h4 G4 H4 (((g.trans g2.up).trans g3.up).trans g4.up) _ fun v4 G5 H5 g5 r4 => ⟨by show 4 ≤ sizeLine; decide, fun p hp => by
    have e0 : G5 p = none := Same.none g5.s hp
    have g6 : Grow NoM G1 H1 (upd G5 p (.tup [v1, v2, v3, v4])) (upd H5 p (.tup [v1, v2, v3, v4])) := (((g2.trans g3).trans g4).trans g5).alloc hp
    refine k _ _ _ g6 ⟨p, v3, v4, rfl, SqT.of ?_, (tFr K).mono (g5.g.trans (same_upd e0)) r3, (tFr K).mono (same_upd e0) r4⟩
    rw [upd_same, show v1 = V.int (r.w : Int) from r1, show v2 = V.int (r.b : Int) from r2]⟩
theorem ev_ow {ta : TE} {o : Option Nat} (h : EvT M ta σ G H tOw o) : EvT M ta σ G H (tOpt tNat) o := fun G1 H1 g Q k => h G1 H1 g Q fun v G2 H2 g2 r2 => k v G2 H2 g2 (by
  cases o with
  | none => exact r2
  | some n => exact ⟨(fun z => by rw [show v = V.int (n : Int) from r2] at z; cases z), r2⟩)
theorem ev_owN {ta : TE} {o : Option Nat} {n : Nat} (e : o = some n) (h : EvT M ta σ G H tOw o) : EvT M ta σ G H tNat n := fun G1 H1 g Q k => h G1 H1 g Q fun v G2 H2 g2 r2 => k v G2 H2 g2 (by
  subst e
  exact r2)
theorem rows_eq (x : Nat) (u : List Seg) : ((u.filter fun s => s.ow.isSome).map fun s => (⟨x, s.ow.getD 0, s.op, s.cl⟩ : Row)) = rowsOf x u := by
  induction u with
  | nil => rfl
  | cons s r ih =>
    rw [rowsOf_cons, List.filter_cons, ← ih]
    cases e : s.ow with
    | none => rfl
    | some k =>
      rw [if_pos (by rfl), List.map_cons, e]
      rfl
theorem amt_sm {W : Wd} (w : W.Ok) (x : Nat) : Sm (W.amt x) ∧ ∀ D, DOk D → Gr D (2 ^ 3300) (W.amt x) := by
  have hb : W.am.getD x 0 ≤ 2 ^ 200 := by
    rw [List.getD_eq_getElem?_getD]
    cases e : W.am[x]? with
    | none => exact Nat.zero_le _
    | some y => exact w.ab y (List.mem_of_getElem? e)
  exact ⟨sm_nat (Nat.le_trans hb (by decide)), fun D d => (Gr.nat D _).mono (Nat.le_trans (Nat.mul_le_mul hb (Nat.le_of_lt d.lt)) (by decide))⟩
theorem rt_sm {W : Wd} (w : W.Ok) (o : Option Nat) : Sm (W.rt o) := by
  obtain ⟨r, e, l⟩ := w.rt o
  rw [e]
  exact sm_nat (Nat.le_trans l (by decide))
theorem len_sm {W : Wd} (w : W.Ok) : Sm (W.L : Rat) := sm_nat (Nat.le_trans w.l1 (by decide))
theorem cap_ovr {W : Wd} {D : Nat} {l : List Seg} (w : W.Ok) (k : LnOk W D l) : Ovr D (capOf l) := by
  have : ∀ (l : List Seg), (∀ s ∈ l, Ovr D s.op ∧ Ovr D s.cl ∧ s.rate = W.rt s.ow ∧ ∀ k, s.ow = some k → k < W.sp.length) → Ovr D (rsum (l.map content)) := by
    intro l
    induction l with
    | nil => intro _; exact ⟨0, by show (0 : Rat) * _ = _; grind⟩
    | cons s r ih =>
      intro hs
      obtain ⟨q1, q2, q3, q4⟩ := hs s List.mem_cons_self
      obtain ⟨n, en, _⟩ := w.rt s.ow
      exact (Ovr.mul (m := 0) (n : Int) (by rw [q3, en, Rat.intCast_natCast]) (q2.sub q1)).add (ih fun x hx => hs x (List.mem_cons_of_mem _ hx))
  rw [capOf_eq]
  exact this l k.sg
/-- the pieces of one turn -/
structure Turn (W : Wd) (D : Nat) (fast slow : List Seg) (a : Rat) : Prop where
  d : DOk D
  f : LaneOk D fast
  s : LaneOk D slow
  lt : capOf slow < a
  f0 : ∃ s0, fast[0]? = some s0
  mm : ∀ m ∈ momentsOf fast slow, Gr D (2 ^ 3200) m
  asc : ∀ (i : Nat) (x y : Rat), (momentsOf fast slow)[i]? = some x → ((momentsOf fast slow).drop 1)[i]? = some y → x < y
  sm : Sm (switchM fast slow a)
theorem turn_ok {W : Wd} {dn : List Nat} {lanes : List (List Seg)} {found : List Row} (w : W.Ok) (h : Inv W dn lanes found) (hn : dn.length ≤ 45) {x i : Nat} (h0 : 0 < W.amt x) (e : slowestL lanes (W.amt x) = some i) :
    ∃ D, Turn W D (lanes.getD i []) (W.slow lanes i) (W.amt x) := by
  obtain ⟨D, d0, d1, hl, hr⟩ := h.dd
  have d := dok d0 d1 (by omega)
  obtain ⟨s1, s2, s3⟩ := slowest_some h0 e
  have ok1 := hl _ (getD_mem s1 [])
  have ok2 := slow_ok w hl i
  have c1 : capOf (W.slow lanes i) < W.amt x := by
    unfold Wd.slow
    by_cases q : i + 1 < lanes.length
    · rw [if_pos q, ← caps_get]; exact s3
    · rw [if_neg q, capOf_idle]; exact h0
  have c2 : W.amt x ≤ capOf (lanes.getD i []) := by rw [← caps_get]; exact s2
  have ov : Ovr D (W.amt x) := ⟨(W.am.getD x 0 * D : Nat), by unfold Wd.amt; rw [Rat.intCast_natCast, Rat.natCast_mul]⟩
  have hL : (0 : Rat) < (W.L : Rat) := Rat.natCast_lt_natCast.mpr w.l0
  obtain ⟨s0, e0⟩ := chn_first ok1.ch hL
  have lo : LanesOk D (W.L : Rat) (lanes.getD i []) (W.slow lanes i) := ⟨ok1.ch, ok2.ch, ok1.seg w d, ok2.seg w d⟩
  have hlen := h.len
  have hsl := w.sl
  have ll1 := lsum_mem (getD_mem s1 []) List.length
  have ll2 : (W.slow lanes i).length ≤ 1000 := by
    unfold Wd.slow
    by_cases q : i + 1 < lanes.length
    · rw [if_pos q]
      have := lsum_mem (getD_mem q []) List.length
      omega
    · rw [if_neg q]
      show 1 ≤ 1000
      decide
  obtain ⟨l, em, asc, hle, hlast, hcl, hmem⟩ := moments_ok lo hL e0
  refine ⟨D, d, ⟨ok1.seg w d, by omega⟩, ⟨ok2.seg w d, ll2⟩, c1, ⟨s0, e0⟩, fun m hm => ?_, ?_, ?_⟩
  · rw [em] at hm
    rcases List.mem_cons.mp hm with rfl | hm
    · exact Gr.zero _ _
    · obtain ⟨s, hs, rfl⟩ := hmem m hm
      rcases List.mem_append.mp hs with hs | hs
      · exact (lo.of s hs).cl
      · exact (lo.os s hs).cl
  · rw [em]
    exact asc_pairs asc
  · obtain ⟨_, hm0, hm1, e', he0, he1, hov⟩ := switch_ok lo hL e0 c1 c2 ov (cap_ovr w ok2)
    refine (hov.gr (Rat.le_of_lt hm0) hm1).sm (Nat.mul_ne_zero d0 (by omega)) ?_ ?_
    · exact Nat.lt_of_le_of_lt (Nat.mul_le_mul (Nat.le_of_lt d.lt) he1) (by decide)
    · exact Nat.lt_of_le_of_lt (Nat.mul_le_mul w.l1 (Nat.mul_le_mul (Nat.le_of_lt d.lt) he1)) (by decide)
theorem found_len {W : Wd} {dn : List Nat} {lanes : List (List Seg)} {found : List Row} (w : W.Ok) (h : Inv W dn lanes found) (hn : dn.length ≤ 46) : found.length ≤ 1000 ∧ lanes.length ≤ 1000 := by
  have := h.pot
  have := lanes0_len W
  have := descL_len W.spQ
  have := spQ_len W
  have := w.sl
  omega
theorem order_at {W : Wd} (w : W.Ok) {i x : Nat} (hi : (descL W.amQ)[i]? = some x) : 0 < W.amt x ∧ x < W.am.length ∧ x ∉ (descL W.amQ).take i ∧ ((descL W.amQ).take i).length ≤ 45 ∧ (descL W.amQ).drop i = x :: (descL W.amQ).drop (i + 1) ∧ (descL W.amQ).take (i + 1) = (descL W.amQ).take i ++ [x] := by
  have hm : x ∈ descL W.amQ := List.mem_of_getElem? hi
  have hln := descL_len W.amQ
  rw [amQ_len] at hln
  have hal := w.al
  obtain ⟨hlt, hx⟩ := List.getElem?_eq_some_iff.mp hi
  have e : (descL W.amQ).drop i = x :: (descL W.amQ).drop (i + 1) := by rw [List.drop_eq_getElem_cons hlt, hx]
  have hm2 := (descL_mem x).mp hm
  rw [amQ_len] at hm2
  refine ⟨amt_pos hm, hm2.1, fun z => ?_, by rw [List.length_take]; omega, e, ?_⟩
  · have hn : ((descL W.amQ).take i ++ (descL W.amQ).drop i).Nodup := by rw [List.take_append_drop]; exact descL_nodup
    obtain ⟨_, _, n3⟩ := List.nodup_append.mp hn
    exact n3 x z x (by rw [e]; exact List.mem_cons_self) rfl
  · rw [List.take_add_one, hi]
    rfl
theorem spec_cut (N : SegK K) {W : Wd} (w : W.Ok) : Spec3 (sp_cut_stretch K) (tFr K) (tLs (tFr K)) (tLs (tFr K)) (tOpt (tLs (tRow K))) (W.L : Rat) W.spQ W.amQ W.plan := by
  intro G H v0 v1 v2 Q E sm r0 r1 r2 k
  have hsq : ∀ q ∈ W.spQ, Sm q := fun q hq => by
    obtain ⟨n, hn, rfl⟩ := List.mem_map.mp hq
    exact sm_nat (Nat.le_trans (w.sb n hn) (by decide))
  have haq : ∀ q ∈ W.amQ, Sm q := fun q hq => by
    obtain ⟨n, hn, rfl⟩ := List.mem_map.mp hq
    exact sm_nat (Nat.le_trans (w.ab n hn) (by decide))
  have lsp := spQ_len W
  have lam := amQ_len W
  have wsl := w.sl
  have wal := w.al
  refine ⟨rfl, q_asgM (M := NoM) (T := tLs (tSeg K)) (xs := W.lanes0) (em_lcm (f := fun j => [⟨0, (W.L : Rat), W.rt (some j), some j⟩]) (T := tNat) (S := tLs (tSeg K)) (ev_call1 (spec_desc N hsq (by omega)) (ev_var rfl r1)) (by have := descL_len W.spQ; omega) (fun x => rfl) fun j u G1 H1 hj g1 ru => ?_) sm fun l ws0 G1 H1 g1 hl0 hg1 hl1 f1 => ?_⟩
  · have hj2 := ((descL_mem j).mp hj).1
    have hx : W.spQ[j]? = some (W.rt (some j)) := by rw [List.getElem?_eq_getElem hj2, ← spQ_get, List.getD_eq_getElem?_getD, List.getElem?_eq_getElem hj2]; rfl
    exact ev_lst1 (ev_mk N (s := ⟨0, (W.L : Rat), W.rt (some j), some j⟩) (ev_zero N) (ev_var rfl ((tFr K).mono g1.g r0)) (ev_ix (i := (j : Int)) (j := j) rfl hx (ev_var rfl ((tLs (tFr K)).mono g1.g r1)) (ev_var (T := tInt) (x := (j : Int)) rfl ru)) (ev_var (T := tOw) (x := some j) rfl ru))
  refine q_asgM (M := NoM) (T := tRow K) (xs := []) em_nil g1.s fun m us0 G2 H2 g2 hm0 hg2 hl2 f2 => ?_
  have lm : l ≠ m := ne_of_none hl1 hm0
  have mH : H m = none := g1.new hm0
  have g12 := g1.trans g2
  have r0' := (tFr K).mono g12.g r0
  have r1' := (tLs (tFr K)).mono g12.g r1
  have r2' := (tLs (tFr K)).mono g12.g r2
  have hsp2 : ∀ G' H', Grow NoM G2 H2 G' H' → True := fun _ _ _ => True.intro
  refine q_for (M := NoM) (T := tNat) (xs := descL W.amQ) (ev_call1 (spec_desc N haq (by omega)) (ev_var rfl r2')) g2.s
    (fun i σ G' H' => ∃ u5 u6 u7 u8 u9 u10 u11 u12 ws us lanes found, σ = [some v0, some v1, some v2, some (.ref l), some (.ref m), u5, u6, u7, u8, u9, u10, u11, u12] ∧ Grow NoM G H G' H' ∧ Same G2 G' ∧ G' l = none ∧ H' l = some (.lst ws) ∧ Fits (tLs (tSeg K)) ws lanes G' ∧ G' m = none ∧ H' m = some (.lst us) ∧ Fits (tRow K) us found G' ∧
      Inv W ((descL W.amQ).take i) lanes found ∧ W.go ((descL W.amQ).drop i) lanes found = W.plan)
    (fun G3 H3 g3 => ⟨none, none, none, none, none, none, none, none, ws0, us0, W.lanes0, [], rfl, g12.trans g3, g3.g, (g2.trans g3).n l hg1 (ne_none_of hl1), (g2.trans g3).hh l _ hl1, f1.mono (g2.trans g3).g, g3.n m hg2 (ne_none_of hl2), g3.hh m _ hl2, f2.mono g3.g, inv0 w, rfl⟩)
    (fun i σ G' H' ⟨_, _, _, _, _, _, _, _, _, _, _, _, _, g, _⟩ => g.s) ?_ ?_
  · rintro G0 i x u σ G3 H3 s0 hi ⟨u5, u6, u7, u8, u9, u10, u11, u12, ws, us, lanes, found, rfl, g3, s23, hgl, hhl, fl, hgm, hhm, fm, inv, hgo⟩ ru
    cases ru
    obtain ⟨hx0, hxl, hxn, hdl, hdrop, htake⟩ := order_at w hi
    rw [hdrop] at hgo
    have ego : W.go (x :: (descL W.amQ).drop (i + 1)) lanes found = match slowestL lanes (W.amt x) with
      | none => none
      | some j => W.go ((descL W.amQ).drop (i + 1)) (W.next lanes j (W.amt x)) (found ++ rowsOf x (W.used lanes j (W.amt x))) := rfl
    rw [ego] at hgo
    have hax : W.amQ[x]? = some (W.amt x) := by
      rw [← amQ_get, List.getD_eq_getElem?_getD, List.getElem?_eq_getElem (by omega)]
      rfl
    obtain ⟨lf, ll⟩ := found_len w inv (by omega)
    obtain ⟨asm, agr⟩ := amt_sm w x
    have r0a := (tFr K).mono s23 r0'
    have r2a := (tLs (tFr K)).mono s23 r2'
    have lws : ws.length = lanes.length := fl.length
    have hlok : ∃ D, DOk D ∧ ∀ lane ∈ lanes, LaneOk D lane := by
      obtain ⟨D, d0, d1, hl, _⟩ := inv.dd
      have d := dok d0 d1 (by omega)
      refine ⟨D, d, fun lane hm => ⟨(hl lane hm).seg w d, ?_⟩⟩
      have := lsum_mem hm List.length
      have := inv.len
      omega
    obtain ⟨D0, dk0, lk0⟩ := hlok
    have upS : Same G3 (upd G3 l (.lst ws)) := same_upd hgl
    refine q_asg (M := NoM) (T := tOpt tNat) (x := slowestL lanes (W.amt x)) (ev_temp (l := l) (o := .lst ws) (fun z => z) hhl hgl (fun v z G G' h => by cases z <;> exact h) (ev_call2 (spec_slowest N dk0 lk0 asm) (ev_var (x := lanes) (T := tLs (tLs (tSeg K))) rfl ⟨l, ws, rfl, upd_same, fl.mono upS⟩) (ev_ix (i := (x : Int)) (j := x) rfl hax (ev_var rfl ((tLs (tFr K)).mono upS r2a)) (ev_var rfl rfl)))) g3.s fun v6 G4 H4 g4 q4 => ?_
    refine q_when (M := NoM) (eb_test (ev_isN (ev_var rfl q4))) g4.s (fun hb G5 H5 g5 => ?_) fun hb G5 H5 g5 => ?_
    · have es : slowestL lanes (W.amt x) = none := by simpa using hb
      rw [es] at hgo
      rw [← show none = W.plan from hgo] at k
      exact s_ret (M := NoM) (T := tOpt (tLs (tRow K))) (x := none) ev_none g5.s fun u G6 H6 g6 q6 => k u G6 H6 (g3.trans (g4.trans (g5.trans g6))) q6
    cases es : slowestL lanes (W.amt x) with
    | none => rw [es] at hb; cases hb
    | some j =>
      rw [es] at hgo q4
      obtain ⟨_, q4⟩ := q4
      obtain ⟨D, t⟩ := turn_ok w inv hdl hx0 es
      have d := t.d
      obtain ⟨s1, _, _⟩ := slowest_some hx0 es
      have step := inv.step w hdl hxn hx0 es
      have hfast : lanes[j]? = some (lanes.getD j []) := by rw [List.getD_eq_getElem?_getD, List.getElem?_eq_getElem s1]; rfl
      have g45 := g4.trans g5
      have hl5 : H5 l = some (.lst ws) := g45.hh l _ hhl
      refine q_asg (M := NoM) (T := tLs (tSeg K)) (x := lanes.getD j []) (ev_ixM (T := tLs (tSeg K)) (l := l) (vs := ws) (xs := lanes) (i := (j : Int)) (j := j) (fun z => z) hl5 (fl.mono g45.g) rfl hfast (ev_var rfl rfl) (ev_var rfl q4)) g5.s fun v7 G6 H6 g6 q7 => ?_
      have g46 := g45.trans g6
      have hl6 : H6 l = some (.lst ws) := g6.hh l _ hl5
      refine q_asg (M := NoM) (T := tLs (tSeg K)) (x := W.slow lanes j) ((ev_if (b := decide (j + 1 < lanes.length)) (x := lanes.getD (j + 1) []) (y := [W.idle]) (T := tLs (tSeg K)) ((eb_test (ev_lt (i := (j : Int) + 1) (j := (ws.length : Int)) (ev_add (ev_var rfl q4) ev_int) (ev_lenM (l := l) (vs := ws) (fun z => z) hl6 (ev_var rfl rfl)))).is (by rw [lws]; exact decide_eq_decide.mpr (by omega))) (fun hc => ?_) (fun hc => ev_lst1 (ev_mk N (s := W.idle) (ev_zero N) (ev_var rfl ((tFr K).mono g46.g r0a)) (ev_zero N) (ev_c (v := .non) rfl)))).is ?_) g6.s fun v8 G7 H7 g7 q8 => ?_
      · have hc2 : j + 1 < lanes.length := of_decide_eq_true hc
        exact ev_ixM (T := tLs (tSeg K)) (l := l) (vs := ws) (xs := lanes) (i := (j : Int) + 1) (j := j + 1) (fun z => z) hl6 (fl.mono g46.g) (by omega) (by rw [List.getD_eq_getElem?_getD, List.getElem?_eq_getElem hc2]; rfl) (ev_var rfl rfl) (ev_add (ev_var rfl q4) ev_int)
      · unfold Wd.slow
        by_cases c : j + 1 < lanes.length
        · rw [if_pos c, if_pos (decide_eq_true c)]
        · rw [if_neg c, if_neg (by simpa using c)]
      have g47 := g46.trans g7
      have q7' := (tLs (tSeg K)).mono g7.g q7
      obtain ⟨s0', hs0⟩ := t.f0
      refine q_asg (M := NoM) (T := tFr K) (x := W.mom lanes j (W.amt x)) (ev_call3 (spec_switch N d t.f t.s hs0 (agr D d) t.lt t.mm t.asc) (ev_var rfl q7') (ev_var rfl q8) (ev_ix (i := (x : Int)) (j := x) rfl hax (ev_var rfl ((tLs (tFr K)).mono g47.g r2a)) (ev_var rfl rfl))) g7.s fun v9 G8 H8 g8 q9 => ?_
      have smm : Sm (W.mom lanes j (W.amt x)) := t.sm
      have g48 := g47.trans g8
      have lsm := len_sm w
      have z1 := laneB_len (lanes.getD j []) 0 (W.mom lanes j (W.amt x))
      have z2 := laneB_len (W.slow lanes j) (W.mom lanes j (W.amt x)) (W.L : Rat)
      have z3 := laneB_len (W.slow lanes j) 0 (W.mom lanes j (W.amt x))
      have z4 := laneB_len (lanes.getD j []) (W.mom lanes j (W.amt x)) (W.L : Rat)
      have tfl := t.f.len
      have tsl := t.s.len
      refine q_asg (M := NoM) (T := tLs (tSeg K)) (x := W.used lanes j (W.amt x)) (ev_call2 (spec_joined N (by omega)) (ev_call3 (spec_laneB N d t.f sm_zero smm) (ev_var rfl ((tLs (tSeg K)).mono g8.g q7')) (ev_zero N) (ev_var rfl q9)) (ev_call3 (spec_laneB N d t.s smm lsm) (ev_var rfl ((tLs (tSeg K)).mono g8.g q8)) (ev_var rfl q9) (ev_var rfl ((tFr K).mono g48.g r0a)))) g8.s fun v10 G9 H9 g9 q10 => ?_
      have g49 := g48.trans g9
      refine q_asg (M := NoM) (T := tLs (tSeg K)) (x := W.rest lanes j (W.amt x)) (ev_call2 (spec_joined N (by omega)) (ev_call3 (spec_laneB N d t.s sm_zero smm) (ev_var rfl ((tLs (tSeg K)).mono (g8.trans g9).g q8)) (ev_zero N) (ev_var rfl ((tFr K).mono g9.g q9))) (ev_call3 (spec_laneB N d t.f smm lsm) (ev_var rfl ((tLs (tSeg K)).mono (g8.trans g9).g q7')) (ev_var rfl ((tFr K).mono g9.g q9)) (ev_var rfl ((tFr K).mono g49.g r0a)))) g9.s fun v11 G10 H10 g10 q11 => ?_
      have g40 := g49.trans g10
      have hl10 : H10 l = some (.lst ws) := g40.hh l _ hhl
      refine q_setSl (T := tLs (tSeg K)) (ys := [W.rest lanes j (W.amt x)]) (a := j) (c := j + 2) hl10 (by omega) (by omega) (by rw [lws, sizeLine_eq]; show lanes.length + 1 ≤ _; omega) (em_lst1 (ev_var rfl q11)) (ev_var rfl rfl) (ev_var rfl q4) ((ev_add (ev_var rfl q4) ev_int).is (by omega)) g10.s fun vs G11 H11 g11 fv e11 => ?_
      have g41 := g40.trans g11
      have gl11 : G11 l = none := g41.n l hgl (ne_none_of hhl)
      have gm11 : G11 m = none := g41.n m hgm (ne_none_of hhm)
      have hm11 : H11 m = some (.lst us) := g41.hh m _ hhm
      have gA : Grow NoM G H G11 (upd H11 l (.lst (ws.take j ++ vs ++ ws.drop (j + 2)))) := (g3.trans g41).mut hl0 gl11
      have hmA : (upd H11 l (.lst (ws.take j ++ vs ++ ws.drop (j + 2)))) m = some (.lst us) := by rw [upd_ne (Ne.symm lm)]; exact hm11
      have flA : Fits (tLs (tSeg K)) (ws.take j ++ vs ++ ws.drop (j + 2)) (W.next lanes j (W.amt x)) G11 := (((fl.mono g41.g).take j).append fv).append ((fl.mono g41.g).drop (j + 2))
      have lus : us.length = found.length := fm.length
      have lused : (W.used lanes j (W.amt x)).length ≤ 2000 := by
        have := joinL_len (laneB (lanes.getD j []) 0 (W.mom lanes j (W.amt x))) (laneB (W.slow lanes j) (W.mom lanes j (W.amt x)) (W.L : Rat))
        have e : W.used lanes j (W.amt x) = joinL (laneB (lanes.getD j []) 0 (W.mom lanes j (W.amt x))) (laneB (W.slow lanes j) (W.mom lanes j (W.amt x)) (W.L : Rat)) := rfl
        rw [e]
        omega
      have lrow : (rowsOf x (W.used lanes j (W.amt x))).length ≤ 2000 := Nat.le_trans (List.length_filterMap_le _ _) lused
      refine s_ext (T := tRow K) (ys := rowsOf x (W.used lanes j (W.amt x))) (l := m) (xs := us) hmA (by rw [lus, sizeLine_eq]; omega) (ev_var rfl rfl) ((em_lc (p := fun s => s.ow.isSome) (f := fun s => (⟨x, s.ow.getD 0, s.op, s.cl⟩ : Row)) (T := tSeg K) (S := tRow K) (ev_var rfl ((tLs (tSeg K)).mono (g10.trans g11).g q10)) (by omega) (fun x => rfl) (fun s u G12 H12 hs g12 ru => eb_test (ev_notN (ev_ow (ev_owner (s := s) N (ev_var rfl ru))))) fun s u G12 H12 hs hp g12 ru => ?_).is (rows_eq x _)) gA.s fun vs2 G12 H12 g12' fv2 e12 => ?_
      · cases eo : s.ow with
        | none => rw [eo] at hp; cases hp
        | some b => exact ev_row (r := ⟨x, b, s.op, s.cl⟩) (ev_var rfl rfl) (ev_owN (o := s.ow) eo (ev_owner (s := s) N (ev_var rfl ru))) (ev_opening (s := s) N (ev_var rfl ru)) (ev_closing (s := s) N (ev_var rfl ru))
      have gl12 : G12 l = none := g12'.n l gl11 (by rw [upd_same]; exact fun z => by cases z)
      have gm12 : G12 m = none := g12'.n m gm11 (ne_none_of hmA)
      have gB : Grow NoM G H G12 (upd H12 m (.lst (us ++ vs2))) := (gA.trans g12').mut mH gm12
      refine ⟨G12, s0.trans (g41.g.trans g12'.g), some _, some v6, some v7, some v8, some v9, some v10, some v11, u12, _, _, W.next lanes j (W.amt x), found ++ rowsOf x (W.used lanes j (W.amt x)), rfl, gB, s23.trans (g41.g.trans g12'.g), gl12, ?_, flA.mono g12'.g, gm12, upd_same, (fm.mono (g41.trans (Grow.refl g11.s)).g |>.mono g12'.g).append fv2, ?_, hgo⟩
      · rw [upd_ne lm]
        exact g12'.hh l _ upd_same
      · rw [htake]
        exact step
  · rintro σ G3 H3 ⟨u5, u6, u7, u8, u9, u10, u11, u12, ws, us, lanes, found, rfl, g3, s23, hgl, hhl, fl, hgm, hhm, fm, inv, hgo⟩
    rw [List.drop_length] at hgo
    rw [← show some found = W.plan from hgo] at k
    have g4 : Grow NoM G H (upd G3 m (.lst us)) H3 := g3.freeze mH hgm hhm
    exact s_ret (M := NoM) (T := tVal) (x := .ref m) (ev_var rfl rfl) g4.s fun u G5 H5 g5 q5 => by
      cases q5
      exact k _ G5 H5 (g4.trans g5) ⟨(fun z => by cases z), m, us, rfl, g5.g m _ upd_same, fm.mono ((same_upd hgm).trans g5.g)⟩
end
end My

/-! The law's own defs: fractions, rows, what can be done. -/
namespace My
open PySem PySem.Spec PyProof.Rows L2
open He (ga ma)
section
variable {M : Addr → Prop} {σ : SS} {G H : Hp} {K : PySem.W.Frag}
theorem lspec_gcd (a b : Nat) : Spec2 (sp_l_gcd K) tInt tInt tInt (a : Int) (b : Int) (Nat.gcd a b : Nat) := by
  have e : sp_l_gcd K = sp_common_divisor K := rfl
  rw [e]; exact spec_gcd a b
theorem lspec_less {a b : Rat} (ha : Sm a) (hb : Sm b) : Spec2 (sp_l_less K) (tFr K) (tFr K) tBool a b (decide (a < b)) := by
  have e : sp_l_less K = sp_is_less K := rfl
  rw [e]; exact spec_less ha hb
theorem lspec_plus {a b : Rat} (ha : Sm a) (hb : Sm b) : Spec2 (sp_l_plus K) (tFr K) (tFr K) (tFr K) a b (a + b) := by
  have e : sp_l_plus K = sp_plus K := rfl
  rw [e]; exact spec_plus ha hb
theorem lspec_minus {a b : Rat} (ha : Sm a) (hb : Sm b) : Spec2 (sp_l_minus K) (tFr K) (tFr K) (tFr K) a b (a - b) := by
  have e : sp_l_minus K = sp_minus K := rfl
  rw [e]; exact spec_minus ha hb
theorem lspec_times {a b : Rat} (ha : Sm a) (hb : Sm b) : Spec2 (sp_l_times K) (tFr K) (tFr K) (tFr K) a b (a * b) := by
  have e : sp_l_times K = sp_times K := rfl
  rw [e]; exact spec_times ha hb
theorem lspec_is_int (i : Int) : Spec1 (sp_l_is_int K) tInt tBool i true := by
  intro G H v Q E sm r1 k
  exact ⟨rfl, s_ret (M := NoM) ((ev_andV (ev_isi (b := true) (ev_var (T := tInt) rfl r1) ty_int (by rfl)) (b := true) fun _ => (ev_notV (ev_isi (b := false) (ev_var (T := tInt) rfl r1) ty_int (by rfl)))).is rfl) sm k⟩
theorem ty_fr {q : Rat} : ∀ v G H, Same G H → (tFr K).rel q v G → TyX K H v (.type "tuple") := fun v G H s ⟨p, e, h⟩ => by
  subst e
  exact ty_tup s h
theorem ty_row {r : Row} : ∀ v G H, Same G H → (tRow K).rel r v G → TyX K H v (.type "tuple") := fun v G H s ⟨p, _, _, e, h, _⟩ => by
  subst e
  exact ty_tup s h
theorem ev_lenF {ta : TE} {q : Rat} (ha : EvT M ta σ G H (tFr K) q) : EvT M (tCB (rLenS K) (tCons ta tNil)) σ G H tInt 2 := fun G1 H1 g Q k => ha G1 H1 g _ fun v G2 H2 g2 r2 => by
  obtain ⟨p, rfl, h⟩ := r2
  exact ⟨p, _, rfl, .inr (sqt_mono g2.s h), k _ G2 H2 g2 rfl⟩
theorem ev_lenRw {ta : TE} {r : Row} (ha : EvT M ta σ G H (tRow K) r) : EvT M (tCB (rLenS K) (tCons ta tNil)) σ G H tInt 4 := fun G1 H1 g Q k => ha G1 H1 g _ fun v G2 H2 g2 r2 => by
  obtain ⟨p, v3, v4, rfl, h, _⟩ := r2
  exact ⟨p, _, rfl, .inr (sqt_mono g2.s h), k _ G2 H2 g2 rfl⟩
theorem ev_r0 {ta : TE} {r : Row} (ha : EvT M ta σ G H (tRow K) r) : EvT M (tOp (rIxT K) ta (tC (.int 0))) σ G H tInt (r.w : Int) :=
  ev_op ha (ev_int (i := 0)) fun v w G1 H1 s sg r1 r2 Q k => by
    obtain ⟨p, v3, v4, rfl, hp, _⟩ := r1
    exact ⟨p, _, 0, _, rfl, r2, sqt_mono s hp, rfl, k _ G1 H1 (Grow.refl s) rfl⟩
theorem ev_r1 {ta : TE} {r : Row} (ha : EvT M ta σ G H (tRow K) r) : EvT M (tOp (rIxT K) ta (tC (.int 1))) σ G H tInt (r.b : Int) :=
  ev_op ha (ev_int (i := 1)) fun v w G1 H1 s sg r1 r2 Q k => by
    obtain ⟨p, v3, v4, rfl, hp, _⟩ := r1
    exact ⟨p, _, 1, _, rfl, r2, sqt_mono s hp, rfl, k _ G1 H1 (Grow.refl s) rfl⟩
theorem ev_r2 {ta : TE} {r : Row} (ha : EvT M ta σ G H (tRow K) r) : EvT M (tOp (rIxT K) ta (tC (.int 2))) σ G H (tFr K) r.st :=
  ev_op ha (ev_int (i := 2)) fun v w G1 H1 s sg r1 r2 Q k => by
    obtain ⟨p, v3, v4, rfl, hp, h3, h4⟩ := r1
    exact ⟨p, _, 2, _, rfl, r2, sqt_mono s hp, rfl, k _ G1 H1 (Grow.refl s) h3⟩
theorem ev_r3 {ta : TE} {r : Row} (ha : EvT M ta σ G H (tRow K) r) : EvT M (tOp (rIxT K) ta (tC (.int 3))) σ G H (tFr K) r.en :=
  ev_op ha (ev_int (i := 3)) fun v w G1 H1 s sg r1 r2 Q k => by
    obtain ⟨p, v3, v4, rfl, hp, h3, h4⟩ := r1
    exact ⟨p, _, 3, _, rfl, r2, sqt_mono s hp, rfl, k _ G1 H1 (Grow.refl s) h4⟩
theorem lspec_is_fraction (q : Rat) : Spec1 (sp_l_is_fraction K) (tFr K) tBool q true := by
  intro G H v Q E sm r1 k
  refine ⟨rfl, q_when (M := NoM) (b := false) ?_ sm (fun h => (by cases h)) fun _ G1 H1 g1 => ?_⟩
  · refine (eb_or (a := false) (b := false) ?_ fun _ => (eb_or (a := false) (b := false) ?_ fun _ => (eb_or (a := false) (b := false) ?_ fun _ => ?_).is rfl).is rfl).is rfl
    · exact (eb_not (b := true) (eb_B (ev_isi (ev_var (T := tFr K) rfl r1) ty_fr (by rfl)))).is rfl
    · exact (eb_test (ev_neI (ev_lenF (ev_var rfl r1)) (ev_int (i := 2)))).is rfl
    · exact (eb_not (b := true) (eb_B (ev_call1 (lspec_is_int q.num) (ev_num (ev_var rfl r1))))).is rfl
    · exact (eb_not (b := true) (eb_B (ev_call1 (lspec_is_int (q.den : Int)) (ev_den (ev_var rfl r1))))).is rfl
  · have r1' := (tFr K).mono g1.g r1
    refine s_ret (M := NoM) (T := tBool) (x := true) ((ev_andV (ev_gt (ev_den (ev_var rfl r1')) (ev_int (i := 0))) fun _ => ev_eqI (ev_call2 (lspec_gcd q.num.natAbs q.den) (ev_abs (ev_num (ev_var rfl r1'))) (ev_den (ev_var rfl r1'))) (ev_int (i := 1))).is ?_) g1.s fun u G2 H2 g2 q2 => k u G2 H2 (g1.trans g2) q2
    have h1 : (0 : Int) < (q.den : Int) := Int.natCast_pos.mpr q.den_pos
    have h2 : Nat.gcd q.num.natAbs q.den = 1 := q.reduced
    rw [decide_eq_true h1, h2]
    rfl
theorem lspec_overlap {r q : Row} (h1 : Sm r.st) (h2 : Sm r.en) (h3 : Sm q.st) (h4 : Sm q.en) : Spec2 (sp_l_overlap K) (tRow K) (tRow K) tBool r q (decide (r.st < q.en) && decide (q.st < r.en)) := by
  intro G H v w Q E sm r1 r2 k
  exact ⟨rfl, s_ret (M := NoM) (ev_andV (ev_call2 (lspec_less h1 h4) (ev_r2 (ev_var rfl r1)) (ev_r3 (ev_var rfl r2))) fun _ => ev_call2 (lspec_less h3 h2) (ev_r2 (ev_var rfl r2)) (ev_r3 (ev_var rfl r1))) sm k⟩
theorem ev_natFr {te : TE} {n : Nat} (h : EvT M te σ G H tNat n) : EvT M (tTup (tCons te (tCons (tC (.int 1)) tNil))) σ G H (tFr K) (n : Rat) := ev_fr (n := (n : Int)) (d := 1) (ev_ni h) ev_int (by simp) (by simp)
theorem lspec_in_stretch {L : Nat} {sp am : List Nat} {r : Row} (hL : L ≤ 2 ^ 100) (h1 : r.w < am.length) (h2 : r.b < sp.length) (h3 : 0 ≤ r.st) (h4 : r.st < r.en) (h5 : r.en ≤ (L : Rat)) (s1 : Sm r.st) (s2 : Sm r.en) :
    Spec4 (sp_l_is_in_stretch K) tNat (tLs tNat) (tLs tNat) (tRow K) tBool L sp am r true := by
  intro G H v w x y Q E sm r1 r2 r3 r4 k
  have sL : Sm (L : Rat) := sm_nat (Nat.le_trans hL (by decide))
  refine ⟨rfl, q_when (M := NoM) (b := false) ?_ sm (fun h => (by cases h)) fun _ G1 H1 g1 => ?_⟩
  · refine (eb_or (a := false) (b := false) ?_ fun _ => (eb_or (a := false) (b := false) ?_ fun _ => (eb_or (a := false) (b := false) ?_ fun _ => ?_).is rfl).is rfl).is rfl
    · exact (eb_not (b := true) (eb_B (ev_isi (ev_var (T := tRow K) rfl r4) ty_row (by rfl)))).is rfl
    · exact (eb_test (ev_neI (ev_lenRw (ev_var rfl r4)) (ev_int (i := 4)))).is rfl
    · exact (eb_not (b := true) (eb_B (ev_call1 (lspec_is_int (r.w : Int)) (ev_r0 (ev_var rfl r4))))).is rfl
    · exact (eb_not (b := true) (eb_B (ev_call1 (lspec_is_int (r.b : Int)) (ev_r1 (ev_var rfl r4))))).is rfl
  have r4a := (tRow K).mono g1.g r4
  refine q_when (M := NoM) (b := false) ?_ g1.s (fun h => (by cases h)) fun _ G2 H2 g2 => ?_
  · refine (eb_or (a := false) (b := false) ?_ fun _ => ?_).is rfl
    · refine (eb_not (b := true) ((eb_test (ev_chain (ev_int (i := 0)) (ev_r0 (ev_var rfl r4a)) (ev_len (ev_var rfl ((tLs tNat).mono g1.g r3))))).is ?_)).is rfl
      rw [decide_eq_true (Int.natCast_nonneg _), decide_eq_true (Int.ofNat_lt.mpr h1)]
      rfl
    · refine (eb_not (b := true) ((eb_test (ev_chain (ev_int (i := 0)) (ev_r1 (ev_var rfl r4a)) (ev_len (ev_var rfl ((tLs tNat).mono g1.g r2))))).is ?_)).is rfl
      rw [decide_eq_true (Int.natCast_nonneg _), decide_eq_true (Int.ofNat_lt.mpr h2)]
      rfl
  have g12 := g1.trans g2
  have r4b := (tRow K).mono g12.g r4
  refine q_when (M := NoM) (b := false) ?_ g2.s (fun h => (by cases h)) fun _ G3 H3 g3 => ?_
  · refine (eb_or (a := false) (b := false) ?_ fun _ => (eb_or (a := false) (b := false) ?_ fun _ => ?_).is rfl).is rfl
    · exact (eb_not (b := true) (eb_B (ev_call1 (lspec_is_fraction _) (ev_r2 (ev_var rfl r4b))))).is rfl
    · exact (eb_not (b := true) (eb_B (ev_call1 (lspec_is_fraction _) (ev_r3 (ev_var rfl r4b))))).is rfl
    · exact (eb_not (b := true) ((eb_B (ev_call2 (lspec_less s1 s2) (ev_r2 (ev_var rfl r4b)) (ev_r3 (ev_var rfl r4b)))).is (decide_eq_true h4))).is rfl
  have g13 := g12.trans g3
  have r4c := (tRow K).mono g13.g r4
  refine s_ret (M := NoM) (T := tBool) (x := true) ((ev_andV (a := true) (b := true) ((ev_ge (ev_num (ev_r2 (ev_var rfl r4c))) (ev_int (i := 0))).is (decide_eq_true (Rat.num_nonneg.mpr h3))) fun _ => (ev_notV (a := false) ((ev_call2 (lspec_less sL s2) (ev_natFr (ev_var rfl (tNat.mono g13.g r1))) (ev_r3 (ev_var rfl r4c))).is (decide_eq_false (by grind)))).is rfl).is rfl) g3.s fun u G4 H4 g4 q4 => k u G4 H4 (g13.trans g4) q4
theorem ev_topS {ta tk : TE} {ns : List Nat} {k : Nat} (ha : EvT M ta σ G H (tLs tNat) (sdL ns)) (hk : EvT M tk σ G H tInt (k : Int)) : EvT M (tCB (rSum K) (tCons (tSl (rSlL K) ta tNoPart (tPart tk)) tNil)) σ G H tNat (topS ns k) :=
  (ev_sum ((ev_slice ha eo_no (eo_part hk)).is cut_to))
theorem top_le {B : Nat} (ns : List Nat) (k : Nat) (h : ∀ x ∈ ns, x ≤ B) : topS ns k ≤ ns.length * B := by
  have q : ∀ (l : List Nat), (∀ x ∈ l, x ≤ B) → l.sum ≤ l.length * B := by
    intro l
    induction l with
    | nil => intro _; exact Nat.zero_le _
    | cons x r ih =>
      intro h
      have h1 := h x List.mem_cons_self
      have h2 := ih fun y hy => h y (List.mem_cons_of_mem _ hy)
      rw [List.sum_cons, List.length_cons, Nat.add_mul]
      omega
  unfold topS
  have hm : ∀ x ∈ (sdL ns).take k, x ≤ B := fun x hx => h x ((sdL_perm ns).mem_iff.mp (List.mem_of_mem_take hx))
  refine Nat.le_trans (q _ hm) (Nat.mul_le_mul_right _ ?_)
  rw [List.length_take, sdL_len]
  omega
theorem nat_wide {a b : Nat} (ha : a < 2 ^ 1000) (hb : b < 2 ^ 1000) : CMulW (a : Int) (b : Int) := wmul (a := 999) (b := 999) (by rw [Int.natAbs_natCast]; exact ha) (by rw [Int.natAbs_natCast]; exact hb) (by decide)
theorem lspec_can {W : Wd} (w : W.Ok) : Spec3 (sp_l_can K) tNat (tLs tNat) (tLs tNat) tBool W.L W.sp W.am (canB W.L W.sp W.am) := by
  intro G H v0 v1 v2 Q E sm r0 r1 r2 k
  have hal := w.al
  refine ⟨rfl, q_tup2 (M := NoM) (ev_sorted (ev_var rfl r1)) (ev_sorted (ev_var rfl r2)) sm fun v3 v4 G1 H1 g1 q3 q4 => ?_⟩
  have r0a := tNat.mono g1.g r0
  have hlen : (sdL W.am).length = W.am.length := sdL_len _
  refine s_ret (M := NoM) (T := tBool) ((ev_eqD (datLs datNat) (by show (1 : Nat) ≤ 64; decide) (y := ([] : List Nat)) (ev_newL (em_lcR (S := tNat) (lo := 1) (hi := ((sdL W.am).length : Int) + 1) (n := W.am.length) (p := canP W.L W.sp W.am) (f := fun i => 1 + i) ev_int (ev_add (ev_len (ev_var rfl q4)) ev_int) (by omega) (by omega) (by omega) (fun x => rfl) (fun i G2 H2 hi g2 => ?_) fun i G2 H2 hi hp g2 => ?_)) ev_nilL).is ?_) g1.s fun u G2 H2 g2 q2 => k u G2 H2 (g1.trans g2) q2
  · have e1 : (1 : Int) + (i : Int) = ((i + 1 : Nat) : Int) := by omega
    have b1 : topS W.sp (i + 1) < 2 ^ 1000 := Nat.lt_of_le_of_lt (top_le W.sp (i + 1) w.sb) (Nat.lt_of_le_of_lt (Nat.mul_le_mul_right _ w.sl) (by decide))
    rw [e1]
    refine (eb_test (ev_gt (i := (topS W.am (i + 1) : Int)) (j := ((W.L : Int) * (topS W.sp (i + 1) : Int))) (ev_ni (ev_topS (ev_var rfl ((tLs tNat).mono g2.g q4)) (ev_var rfl rfl))) (ev_mul (nat_wide (Nat.lt_of_le_of_lt w.l1 (by decide)) b1) (ev_ni (ev_var rfl (tNat.mono g2.g r0a))) (ev_ni (ev_topS (ev_var rfl ((tLs tNat).mono g2.g q3)) (ev_var rfl rfl)))))).is ?_
    unfold canP
    refine decide_eq_decide.mpr ?_
    rw [← Int.natCast_mul]
    exact Int.ofNat_lt
  · exact ev_in ((ev_var (T := tInt) (x := 1 + (i : Int)) rfl rfl).is (by omega))
  · unfold canB
    rfl
end
end My

/-! The law's own defs: does a plan do the stretch. -/
namespace My
open PySem PySem.Spec PyProof.Rows L2
open He (ga ma)
section
variable {M : Addr → Prop} {σ : SS} {G H : Hp} {K : PySem.W.Frag}
/-- the numbers of a plan -/
structure RowsOk (W : Wd) (D : Nat) (res : List Row) : Prop where
  d : DOk D
  g : ∀ r ∈ res, Gr D (2 ^ 3200) r.st ∧ Gr D (2 ^ 3200) r.en
  len : res.length ≤ 1000
theorem rows_ok {W : Wd} (w : W.Ok) {lanes : List (List Seg)} {res : List Row} (h : Inv W (descL W.amQ) lanes res) : ∃ D, RowsOk W D res := by
  obtain ⟨D, d0, d1, _, hr⟩ := h.dd
  have hln := descL_len W.amQ
  rw [amQ_len] at hln
  have hal := w.al
  have d := dok d0 d1 (by omega)
  refine ⟨D, d, fun r hm => ?_, (found_len w h (by omega)).1⟩
  have hb : W.L * D ≤ 2 ^ 3200 := Nat.le_trans (Nat.mul_le_mul w.l1 (Nat.le_of_lt d.lt)) (by decide)
  obtain ⟨_, _, a1, a2, a3⟩ := h.rg r hm
  obtain ⟨o1, o2⟩ := hr r hm
  exact ⟨(o1.gr a1 (by grind)).mono hb, (o2.gr (by grind) a3).mono hb⟩
theorem con_gr {W : Wd} {D : Nat} {res : List Row} (w : W.Ok) (h : RowsOk W D res) {r : Row} (hm : r ∈ res) : Gr D (2 ^ 3300) (r.con W) := by
  obtain ⟨n, e, l⟩ := w.rt (some r.b)
  unfold Row.con
  rw [e]
  obtain ⟨a, b⟩ := h.g r hm
  exact ((b.sub a).nmul n).mono (Nat.le_trans (Nat.mul_le_mul_right _ l) (by decide))
theorem done_gr {W : Wd} {D : Nat} {res : List Row} (w : W.Ok) (h : RowsOk W D res) (v : Nat) : ∀ rows : List Row, (∀ r ∈ rows, r ∈ res) → Gr D (rows.length * 2 ^ 3300) (doneR W v rows)
  | [], _ => Gr.zero _ _
  | r :: rs, hs => by
    have ih := done_gr w h v rs fun x hx => hs x (List.mem_cons_of_mem _ hx)
    have e : doneR W v (r :: rs) = (if r.w = v then r.con W else 0) + doneR W v rs := by
      unfold doneR
      rw [List.filter_cons]
      by_cases c : r.w = v
      · rw [if_pos (by simpa using c), if_pos c]
        rfl
      · rw [if_neg (by simpa using c), if_neg c]
        grind
    rw [e, List.length_cons, Nat.add_mul, Nat.one_mul, Nat.add_comm (rs.length * _)]
    refine Gr.add ?_ ih
    split
    · exact con_gr w h (hs r List.mem_cons_self)
    · exact Gr.zero _ _
theorem doneR_take {W : Wd} {res : List Row} {i : Nat} {r : Row} (hi : res[i]? = some r) (v : Nat) : doneR W v (res.take (i + 1)) = doneR W v (res.take i) + if r.w = v then r.con W else 0 := by
  rw [List.take_add_one, hi]
  show doneR W v (res.take i ++ [r]) = _
  rw [doneR_append]
  congr 1
  unfold doneR
  by_cases c : r.w = v
  · rw [if_pos c, List.filter_cons, if_pos (by simpa using c)]
    show r.con W + 0 = _
    grind
  · rw [if_neg c, List.filter_cons, if_neg (by simpa using c)]
    rfl
def doneL (W : Wd) (rows : List Row) : List Rat := (List.range W.am.length).map fun v => doneR W v rows
theorem doneL_get (W : Wd) (rows : List Row) {v : Nat} (hv : v < W.am.length) : (doneL W rows)[v]? = some (doneR W v rows) := by
  unfold doneL
  rw [List.getElem?_map, List.getElem?_range hv]
  rfl
theorem doneL_set {W : Wd} {res : List Row} {i : Nat} {r : Row} (hi : res[i]? = some r) : doneL W (res.take (i + 1)) = (doneL W (res.take i)).set r.w (doneR W r.w (res.take i) + r.con W) := by
  refine List.ext_getElem? fun v => ?_
  rw [List.getElem?_set]
  by_cases hv : v < W.am.length
  · rw [doneL_get W _ hv, doneL_get W _ hv, doneR_take hi]
    by_cases c : r.w = v
    · subst c
      rw [if_pos rfl, if_pos rfl, if_pos (by unfold doneL; rw [List.length_map, List.length_range]; exact hv)]
    · rw [if_neg c, if_neg c]
      grind
  · have e : ∀ rows, (doneL W rows)[v]? = none := fun rows => List.getElem?_eq_none (by unfold doneL; rw [List.length_map, List.length_range]; omega)
    rw [e, e]
    split
    · rw [if_neg (by unfold doneL; rw [List.length_map, List.length_range]; omega)]
    · rfl
theorem doneL_nil (W : Wd) : doneL W [] = List.replicate W.am.length 0 := by
  unfold doneL
  refine List.eq_replicate_iff.mpr ⟨by rw [List.length_map, List.length_range], fun x hx => ?_⟩
  obtain ⟨v, _, rfl⟩ := List.mem_map.mp hx
  rfl
theorem doneL_all {W : Wd} {lanes : List (List Seg)} {res : List Row} (h : Inv W (descL W.amQ) lanes res) : doneL W res = W.am.map fun n : Nat => (n : Rat) := by
  refine List.ext_getElem? fun v => ?_
  by_cases hv : v < W.am.length
  · rw [doneL_get W _ hv, done_all h v hv, List.getElem?_map, List.getElem?_eq_getElem hv]
    show some ((W.am.getD v 0 : Nat) : Rat) = _
    rw [getD_at hv]
    rfl
  · rw [List.getElem?_eq_none (by unfold doneL; rw [List.length_map, List.length_range]; omega), List.getElem?_eq_none (by rw [List.length_map]; omega)]
theorem lspec_does {W : Wd} (w : W.Ok) {lanes : List (List Seg)} {res : List Row} (inv : Inv W (descL W.amQ) lanes res) : Spec4 (sp_l_does_stretch K) tNat (tLs tNat) (tLs tNat) (tLs (tRow K)) tBool W.L W.sp W.am res true := by
  intro G H v0 v1 v2 v3 Q E sm r0 r1 r2 r3 k
  obtain ⟨D, ro⟩ := rows_ok w inv
  have hal := w.al
  have hsl := w.sl
  have d := ro.d
  have hrl := ro.len
  have smst : ∀ r ∈ res, Sm r.st ∧ Sm r.en := fun r hm => ⟨d.sm (ro.g r hm).1 (by decide), d.sm (ro.g r hm).2 (by decide)⟩
  have hwl : ∀ r ∈ res, r.w < W.am.length := fun r hm => by
    have := ((descL_mem r.w).mp (inv.rg r hm).1).1
    rw [amQ_len] at this
    exact this
  refine ⟨rfl, q_when (M := NoM) (b := false) ((eb_not (b := true) (eb_B (ev_isi (ev_var (T := tLs (tRow K)) rfl r3) ty_lst (by rfl)))).is rfl) sm (fun h => (by cases h)) fun _ G1 H1 g1 => ?_⟩
  have r0a := tNat.mono g1.g r0
  have r1a := (tLs tNat).mono g1.g r1
  have r2a := (tLs tNat).mono g1.g r2
  have r3a := (tLs (tRow K)).mono g1.g r3
  refine q_when (M := NoM) (b := false) (eb_test (ev_isNil (T := tRow K) (xs := (res.filter fun _ => false).map id) (by simp) (ev_lc (p := fun _ => false) (f := id) (T := tRow K) (S := tRow K) (ev_var rfl r3a) (by omega) (fun x => rfl) (fun r u G2 H2 hm g2 ru => ?_) (fun r u G2 H2 hm hp g2 ru => ev_var rfl ru)))) g1.s (fun h => (by cases h)) fun _ G2 H2 g2 => ?_
  · obtain ⟨_, b1, b2, b3, b4⟩ := inv.rg r hm
    exact (eb_not (b := true) (eb_B (ev_call4 (lspec_in_stretch w.l1 (hwl r hm) b1 b2 b3 b4 (smst r hm).1 (smst r hm).2) (ev_var rfl (tNat.mono g2.g r0a)) (ev_var rfl ((tLs tNat).mono g2.g r1a)) (ev_var rfl ((tLs tNat).mono g2.g r2a)) (ev_var rfl ru)))).is rfl
  have r3b := (tLs (tRow K)).mono g2.g r3a
  refine q_rng (M := NoM) (n := res.length) (ev_len (ev_var rfl r3b)) (by omega) g2.s (fun i σ G' H' => ∃ u4 u5 u6, σ = [some v0, some v1, some v2, some v3, u4, u5, u6, none, none, none, none, none, none, none] ∧ Grow NoM G2 H2 G' H') (fun G3 H3 g3 => ⟨none, none, none, rfl, g3⟩) ?_ ?_
  · rintro G0 i σ G' H' s0 hi ⟨u4, u5, u6, rfl, g⟩
    have hr : res[i]? = some res[i] := List.getElem?_eq_getElem hi
    have hm : res[i] ∈ res := List.getElem_mem hi
    generalize res[i] = r at hr hm
    refine q_asg (M := NoM) (T := tRow K) (x := r) (ev_ix (i := (i : Int)) (j := i) rfl hr (ev_var rfl ((tLs (tRow K)).mono g.g r3b)) (ev_var rfl rfl)) g.s fun v5 G3 H3 g3 q5 => ?_
    have gg := g.trans g3
    have lrow : (res.drop (i + 1)).length ≤ 100000 := by rw [List.length_drop]; omega
    refine q_asg (M := NoM) (T := tLs (tRow K)) (x := []) ((ev_lc (p := fun q => (decide ((q.w : Int) = (r.w : Int)) || decide ((q.b : Int) = (r.b : Int))) && (decide (r.st < q.en) && decide (q.st < r.en))) (f := id) (T := tRow K) (S := tRow K) ((ev_slice (ev_var rfl ((tLs (tRow K)).mono gg.g r3b)) (eo_part (ev_add (i := (i : Int)) (ev_var rfl rfl) ev_int)) eo_no).is (cut_from (k := i + 1))) lrow (fun x => rfl) (fun q u G4 H4 hq g4 ru => ?_) (fun q u G4 H4 hm hp g4 ru => ev_var rfl ru)).is ?_) g3.s fun v6 G4 H4 g4 q6 => ?_
    · have hq2 : q ∈ res := List.mem_of_mem_drop hq
      have q5' := (tRow K).mono g4.g q5
      exact eb_and (eb_or (eb_test (ev_eqI (ev_r0 (ev_var rfl ru)) (ev_r0 (ev_var rfl q5')))) fun _ => eb_test (ev_eqI (ev_r1 (ev_var rfl ru)) (ev_r1 (ev_var rfl q5')))) fun _ => eb_B (ev_call2 (lspec_overlap (smst r hm).1 (smst r hm).2 (smst q hq2).1 (smst q hq2).2) (ev_var rfl q5') (ev_var rfl ru))
    · rw [List.map_id, List.filter_eq_nil_iff]
      intro q hq z
      have ap : Row.apart r q := by
        have pw := inv.pw
        have e : res = res.take i ++ (r :: res.drop (i + 1)) := by
          have h1 := List.drop_eq_getElem_cons hi
          have h2 : res[i] = r := (List.getElem?_eq_some_iff.mp hr).2
          rw [h2] at h1
          rw [← h1, List.take_append_drop]
        rw [e] at pw
        exact (List.pairwise_cons.mp (List.pairwise_append.mp pw).2.1).1 q hq
      refine ap ?_
      simp only [Bool.and_eq_true, Bool.or_eq_true, decide_eq_true_eq] at z
      obtain ⟨z1, z2, z3⟩ := z
      exact ⟨by omega, z2, z3⟩
    · refine s_when (M := NoM) (b := false) (eb_test (ev_isNil (T := tRow K) rfl (ev_var rfl q6))) g4.s (fun h => (by cases h)) fun _ G5 H5 g5 => ?_
      exact ⟨G5, s0.trans ((g3.trans g4).trans g5).g, some _, some v5, some v6, rfl, ((g.trans g3).trans g4).trans g5⟩
  · rintro σ G3 H3 ⟨u4, u5, u6, rfl, g3⟩
    have g23 := g2.trans g3
    have r1b := (tLs tNat).mono g23.g r1a
    have r2b := (tLs tNat).mono g23.g r2a
    have r3c := (tLs (tRow K)).mono g3.g r3b
    refine q_asgM (M := NoM) (T := tFr K) (xs := List.replicate W.am.length 0) (em_rep (by omega) (em_lst1 (ev_fr (q := 0) (n := 0) (d := 1) ev_int ev_int rfl rfl)) (ev_len (ev_var rfl r2b))) g3.s fun l ws0 G4 H4 g4 hl0 hg4 hl4 f4 => ?_
    have g24 := g23.trans g4
    refine q_for (M := NoM) (T := tRow K) (xs := res) (ev_var rfl ((tLs (tRow K)).mono g4.g r3c)) g4.s (fun i σ G' H' => ∃ u8 u9 u10 u11 ws, σ = [some v0, some v1, some v2, some v3, u4, u5, u6, some (.ref l), u8, u9, u10, u11, none, none] ∧ Grow NoM G3 H3 G' H' ∧ Same G4 G' ∧ G' l = none ∧ H' l = some (.lst ws) ∧ Fits (tFr K) ws (doneL W (res.take i)) G')
      (fun G5 H5 g5 => ⟨none, none, none, none, ws0, rfl, g4.trans g5, g5.g, g5.n l hg4 (ne_none_of hl4), g5.hh l _ hl4, by rw [List.take_zero, doneL_nil]; exact f4.mono g5.g⟩) (fun i σ G' H' ⟨_, _, _, _, _, _, g, _⟩ => g.s) ?_ ?_
    · rintro G0 i r u σ G5 H5 s0 hi ⟨u8, u9, u10, u11, ws, rfl, g5, s45, hgl, hhl, ff⟩ ru
      obtain ⟨p, v3', v4', rfl, hp, rs, re⟩ := ru
      have hm : r ∈ res := List.mem_of_getElem? hi
      refine ⟨p, _, rfl, sqt_mono g5.s hp, rfl, _, _, rfl, _, _, rfl, _, _, rfl, _, _, rfl, rfl, ?_⟩
      have lws : ws.length = W.am.length := by rw [ff.length]; unfold doneL; rw [List.length_map, List.length_range]
      have hx := doneL_get W (res.take i) (hwl r hm)
      have r1c := (tLs tNat).mono ((g4.g.trans s45)) r1b
      have hb : r.b < W.sp.length := (inv.rg r hm).2.1
      have hxs : W.sp[r.b]? = some (W.sp.getD r.b 0) := by rw [List.getElem?_eq_getElem hb, getD_at hb]
      have gd := done_gr w ro r.w (res.take i) fun x hx => List.mem_of_mem_take hx
      have sd : Sm (doneR W r.w (res.take i)) := d.sm gd (by
        have : (res.take i).length ≤ 1000 := by rw [List.length_take]; omega
        exact Nat.le_trans (Nat.mul_le_mul_right _ this) (by decide))
      have srt : Sm ((W.sp.getD r.b 0 : Nat) : Rat) := rt_sm w (some r.b)
      have smin : Sm (r.en - r.st) := d.sm ((ro.g r hm).2.sub (ro.g r hm).1) (by decide)
      have scon : Sm (((W.sp.getD r.b 0 : Nat) : Rat) * (r.en - r.st)) := d.sm (con_gr w ro hm) (by decide)
      refine s_setL (T := tFr K) (x := doneR W r.w (res.take i) + ((W.sp.getD r.b 0 : Nat) : Rat) * (r.en - r.st)) (l := l) (xs := ws) (j := r.w) hhl (by rw [lws]; exact hwl r hm)
        (ev_call2 (lspec_plus sd scon) (ev_ixM (T := tFr K) (l := l) (vs := ws) (xs := doneL W (res.take i)) (i := (r.w : Int)) (j := r.w) (fun z => z) hhl ff rfl hx (ev_var rfl rfl) (ev_var rfl rfl)) (ev_call2 (lspec_times srt smin) (ev_natFr (ev_ix (T := tNat) (i := (r.b : Int)) (j := r.b) rfl hxs (ev_var rfl r1c) (ev_var rfl rfl))) (ev_call2 (lspec_minus (smst r hm).2 (smst r hm).1) (ev_var rfl re) (ev_var rfl rs))))
        (ev_var rfl rfl) (ev_var rfl rfl) g5.s fun v6 G6 H6 g6 q6 e6 => ?_
      have hg6 : G6 l = none := g6.n l hgl (ne_none_of hhl)
      refine ⟨G6, s0.trans g6.g, some _, some _, some _, some _, _, rfl, (g5.trans g6).mut hl0 hg6, s45.trans g6.g, hg6, upd_same, ?_⟩
      rw [doneL_set hi]
      exact (ff.mono g6.g).set r.w q6
    · rintro σ G5 H5 ⟨u8, u9, u10, u11, ws, rfl, g5, s45, hgl, hhl, ff⟩
      rw [List.take_length, doneL_all inv] at ff
      have g25 := g23.trans g5
      have r1d := (tLs tNat).mono (g4.g.trans s45) r1b
      have r2d := (tLs tNat).mono (g4.g.trans s45) r2b
      have r3d := (tLs (tRow K)).mono (g4.g.trans s45) r3c
      have upS : Same G5 (upd G5 l (.lst ws)) := same_upd hgl
      refine q_when (M := NoM) (b := false) (eb_test (ev_temp (U := tBool) (z := false) (l := l) (o := .lst ws) (fun z => z) hhl hgl (fun v z G G' h => h) ((ev_neD (datLs (datFr (K := K))) (by show (2 : Nat) ≤ 64; decide) (x := W.am.map fun n : Nat => (n : Rat)) (ev_var (T := tLs (tFr K)) rfl ⟨l, ws, rfl, upd_same, ff.mono upS⟩) (ev_lcm (f := fun n : Nat => (n : Rat)) (T := tNat) (S := tFr K) (ev_var rfl ((tLs tNat).mono upS r2d)) (by omega) (fun x => rfl) fun n u G6 H6 hn g6 ru => ev_natFr (ev_var rfl ru))).is (by simp)))) g5.s (fun h => (by cases h)) fun _ G6 H6 g6 => ?_
      have r1e := (tLs tNat).mono g6.g r1d
      have r2e := (tLs tNat).mono g6.g r2d
      have r3e := (tLs (tRow K)).mono g6.g r3d
      refine s_ret (M := NoM) (T := tBool) (x := true) ((ev_orV (ev_eqD (datLs datNat) (by show (1 : Nat) ≤ 64; decide) (y := ([] : List Nat)) (ev_var rfl r1e) ev_nilL) fun _ => ev_le (ev_len (ev_var rfl r3e)) (ev_add (ev_len (ev_var rfl r2e)) (ev_mul (i := 2) (j := (W.sp.length : Int) - 1) ?_ ev_int (ev_sub (ev_len (ev_var rfl r1e)) ev_int)))).is ?_) g6.s fun u G7 H7 g7 q7 => k u G7 H7 (g1.trans (g25.trans (g6.trans g7))) q7
      · exact wmul (a := 100) (b := 100) (by decide) (by omega) (by decide)
      · by_cases c : W.sp = []
        · rw [decide_eq_true c]
          rfl
        · rw [decide_eq_false c]
          have hpos : 0 < W.sp.length := List.length_pos_iff.mpr c
          have := rows_most inv hpos
          show decide _ = true
          exact decide_eq_true (by omega)
end
end My

/-! The plan of a stretch, by lists or tuples; the law's test of it. -/
namespace My
open PySem PySem.Spec PyProof.Rows L2
open He (ga ma)
section
variable {M : Addr → Prop} {σ : SS} {G H : Hp} {K : PySem.W.Frag} {α β γ : Type} {T : Ty α} {S : Ty β} {U : Ty γ} {D : Ends} {tu tw tz : TS} {x : α} {y : β}
theorem em_or1 {a b : TI} {g : TG} {tt : TT} {te : TE} {vs : List Nat} {ys : List β} (h : EvM M (tLc a g tt te vs) σ G H S ys) : EvM M (tLc (iOr a b) g tt te vs) σ G H S ys := fun G1 H1 gr Q k => Or.inl (h G1 H1 gr Q k)
theorem em_or2 {a b : TI} {g : TG} {tt : TT} {te : TE} {vs : List Nat} {ys : List β} (h : EvM M (tLc b g tt te vs) σ G H S ys) : EvM M (tLc (iOr a b) g tt te vs) σ G H S ys := fun G1 H1 gr Q k => Or.inr (h G1 H1 gr Q k)
theorem spec_planL (N : SegK K) {W : Wd} (w : W.Ok) : Spec3 (sp_stretch_plan K) tNat (tLs tNat) (tLs tNat) (tOpt (tLs (tRow K))) W.L W.sp W.am W.plan := by
  intro G H v0 v1 v2 Q E sm r0 r1 r2 k
  have hal := w.al
  have hsl := w.sl
  exact ⟨rfl, s_ret (M := NoM) (T := tOpt (tLs (tRow K))) (x := W.plan) (ev_call3 (spec_cut N w) (ev_natFr (ev_var rfl r0)) (ev_newL (em_or1 (em_lcm (f := fun n : Nat => (n : Rat)) (T := tNat) (S := tFr K) (ev_var rfl r1) (by omega) (fun x => rfl) fun n u G1 H1 hn g1 ru => ev_natFr (ev_var rfl ru))))
    (ev_newL (em_or1 (em_lcm (f := fun n : Nat => (n : Rat)) (T := tNat) (S := tFr K) (ev_var rfl r2) (by omega) (fun x => rfl) fun n u G1 H1 hn g1 ru => ev_natFr (ev_var rfl ru))))) sm k⟩
theorem spec_planT (N : SegK K) {W : Wd} (w : W.Ok) : Spec3 (sp_stretch_plan K) tNat (tTp K tNat) (tTp K tNat) (tOpt (tLs (tRow K))) W.L W.sp W.am W.plan := by
  intro G H v0 v1 v2 Q E sm r0 r1 r2 k
  have hal := w.al
  have hsl := w.sl
  exact ⟨rfl, s_ret (M := NoM) (T := tOpt (tLs (tRow K))) (x := W.plan) (ev_call3 (spec_cut N w) (ev_natFr (ev_var rfl r0)) (ev_newL (em_or2 (em_lct (f := fun n : Nat => (n : Rat)) (T := tNat) (S := tFr K) (ev_var rfl r1) (by omega) (fun x => rfl) fun n u G1 H1 hn g1 ru => ev_natFr (ev_var rfl ru))))
    (ev_newL (em_or2 (em_lct (f := fun n : Nat => (n : Rat)) (T := tNat) (S := tFr K) (ev_var rfl r2) (by omega) (fun x => rfl) fun n u G1 H1 hn g1 ru => ev_natFr (ev_var rfl ru))))) sm k⟩
/-! ### repr -/
def insD (ns : List Nat) : PyData := .list (ns.map fun n : Nat => .int (n : Int))
def twoD (a b : List Nat) : PyData := .tuple [insD a, insD b]
theorem dp_ints {G : Hp} : ∀ {vs : List V} {ns : List Nat}, Fits tNat vs ns G → DpAll K G vs (ns.map fun n : Nat => .int (n : Int))
  | [], [], _ => .nil
  | v :: vs, n :: ns, h => by
    rw [show v = V.int (n : Int) from h.1]
    exact .cons (.int _) (dp_ints h.2)
  | [], _ :: _, h => h.elim
  | _ :: _, [], h => h.elim
theorem show_ints (ns : List Nat) (h : ∀ x ∈ ns, x ≤ 2 ^ 200) : PyData.showableAll (ns.map fun n : Nat => .int (n : Int)) = true ∧ PyData.hasDictAll (ns.map fun n : Nat => .int (n : Int)) = false ∧ PyData.depthAll (ns.map fun n : Nat => .int (n : Int)) ≤ 0 ∧
    ((PyData.shownAll (ns.map fun n : Nat => .int (n : Int))).map (·.length)).sum ≤ ns.length * 1921 ∧ (PyData.shownAll (ns.map fun n : Nat => .int (n : Int))).length = ns.length := by
  induction ns with
  | nil => exact ⟨rfl, rfl, Nat.le_refl _, Nat.le_refl _, rfl⟩
  | cons n r ih =>
    obtain ⟨a, b, c, d, e⟩ := ih fun x hx => h x (List.mem_cons_of_mem _ hx)
    have hn : ((n : Int)).natAbs.log2 < 1920 := by
      rw [Int.natAbs_natCast]
      exact PySem.Flt.log2_lt_of (by decide) (Nat.lt_of_le_of_lt (h n List.mem_cons_self) (by decide))
    refine ⟨?_, ?_, ?_, ?_, ?_⟩
    · show (decide (((n : Int)).natAbs.log2 < 1920) && PyData.showableAll _) = true
      rw [a, decide_eq_true hn]
      rfl
    · show (false || PyData.hasDictAll _) = false
      rw [b]
      rfl
    · show max 0 (PyData.depthAll _) ≤ 0
      omega
    · have l : (PyData.shown (.int (n : Int))).length ≤ 1921 := int_text_len_1921 hn
      show (PyData.shown (.int (n : Int))).length + ((PyData.shownAll (r.map fun n : Nat => .int (n : Int))).map (·.length)).sum ≤ _
      rw [List.length_cons, Nat.add_mul]
      omega
    · show (PyData.shownAll _).length + 1 = _
      rw [e]
      rfl
theorem show_two {a b : List Nat} (ha : ∀ x ∈ a, x ≤ 2 ^ 200) (hb : ∀ x ∈ b, x ≤ 2 ^ 200) (la : a.length ≤ 1000) (lb : b.length ≤ 1000) : (twoD a b).showable = true ∧ (twoD a b).hasDict = false ∧ (twoD a b).depth ≤ 60 ∧ (twoD a b).shown.length ≤ sizeLine := by
  obtain ⟨a1, a2, a3, a4, a5⟩ := show_ints a ha
  obtain ⟨b1, b2, b3, b4, b5⟩ := show_ints b hb
  refine ⟨?_, ?_, ?_, ?_⟩
  · show (PyData.showableAll _ && (PyData.showableAll _ && true)) = true
    rw [a1, b1]
    rfl
  · show (PyData.hasDictAll _ || (PyData.hasDictAll _ || false)) = false
    rw [a2, b2]
    rfl
  · show max (PyData.depthAll _ + 1) (max (PyData.depthAll _ + 1) 0) + 1 ≤ 60
    omega
  · have e : (twoD a b).shown = tupleText [listText (PyData.shownAll (a.map fun n : Nat => .int (n : Int))), listText (PyData.shownAll (b.map fun n : Nat => .int (n : Int)))] := rfl
    rw [e]
    have t := tupleText_len_le [listText (PyData.shownAll (a.map fun n : Nat => .int (n : Int))), listText (PyData.shownAll (b.map fun n : Nat => .int (n : Int)))]
    have l1 := listText_len_le (PyData.shownAll (a.map fun n : Nat => .int (n : Int)))
    have l2 := listText_len_le (PyData.shownAll (b.map fun n : Nat => .int (n : Int)))
    simp only [List.map_cons, List.map_nil, List.sum_cons, List.sum_nil, List.length_cons, List.length_nil] at t
    rw [sizeLine_eq]
    have m1 : a.length * 1921 ≤ 1000 * 1921 := Nat.mul_le_mul_right _ la
    have m2 : b.length * 1921 ≤ 1000 * 1921 := Nat.mul_le_mul_right _ lb
    omega
theorem ev_repr2 {ta tb : TE} {a b : List Nat} (ha : ∀ x ∈ a, x ≤ 2 ^ 200) (hb : ∀ x ∈ b, x ≤ 2 ^ 200) (la : a.length ≤ 1000) (lb : b.length ≤ 1000) (h1 : EvT M ta σ G H (tLs tNat) a) (h2 : EvT M tb σ G H (tLs tNat) b) :
    EvT M (tCB (rReprD K) (tCons (tTup (tCons ta (tCons tb tNil))) tNil)) σ G H tVal (.str (twoD a b).shown) :=
  fun G1 H1 g Q k => h1 G1 H1 g _ fun v G2 H2 g2 r2 => h2 G2 H2 (g.trans g2.up) _ fun w G3 H3 g3 r3 => ⟨by show 2 ≤ sizeLine; decide, fun p hp => by
    have e0 : G3 p = none := Same.none g3.s hp
    have g4 : Grow NoM G1 H1 (upd G3 p (.tup [v, w])) (upd H3 p (.tup [v, w])) := (g2.trans g3).alloc hp
    have r2' := (tLs tNat).mono (g3.g.trans (same_upd e0 (o := .tup [v, w]))) r2
    have r3' := (tLs tNat).mono (same_upd e0 (o := .tup [v, w])) r3
    obtain ⟨p1, vs1, rfl, hp1, f1⟩ := r2'
    obtain ⟨p2, vs2, rfl, hp2, f2⟩ := r3'
    obtain ⟨s1, s2, s3, s4⟩ := show_two ha hb la lb
    exact ⟨p, twoD a b, rfl, .tup (SqT.of upd_same) (.cons (.lst (SqL.of (g4.s p1 _ hp1)) (dp_ints (f1.mono g4.s))) (.cons (.lst (SqL.of (g4.s p2 _ hp2)) (dp_ints (f2.mono g4.s))) .nil)), s1, s2, s3, s4, k _ _ _ g4 rfl⟩⟩
theorem ev_eqStr {ta tb : TE} {a : Str} (h1 : EvT M ta σ G H tVal (.str a)) (h2 : EvT M tb σ G H tVal (.str a)) : EvT M (tOp rEq ta tb) σ G H tBool true :=
  ev_op h1 h2 fun v w G1 H1 s sg r1 r2 Q k => by
    cases r1
    cases r2
    exact ⟨rfl, k _ G1 H1 (Grow.refl s) (congrArg V.bl (decide_eq_true rfl).symm).symm⟩
/-! ### for over a tuple -/
theorem s_forT {tl : TE} {g : TG} {xs : List α} (ha : EvT M tl σ G H (tTp K T) xs) (s : Same G H) (Iv : Nat → SS → Hp → Hp → Prop)
    (h0 : ∀ G1 H1, Grow NoM G H G1 H1 → Iv 0 σ G1 H1) (hk : ∀ i σ' G' H', Iv i σ' G' H' → Same G' H')
    (hs : ∀ G0 i x v σ' G' H', Same G0 G' → xs[i]? = some x → Iv i σ' G' H' → T.rel x v G' → g v σ' H' fun σ2 H2 => tu { D with nx := Nx Iv G0 (i + 1), ct := Nx Iv G0 (i + 1), bk := D.nx } σ2 H2)
    (hd : ∀ σ' G' H', Iv xs.length σ' G' H' → D.nx σ' H') : tFor (iTup K tl) g tu D σ H := ha.go s fun v G1 H1 g1 r1 => by
  obtain ⟨l, vs, rfl, hl, fit⟩ := r1
  refine ⟨l, rfl, ⟨vs, sqt_mono g1.s hl⟩, for_tup (K := K) (a := l) (xs := vs) (Nx Iv G1) ⟨G1, Same.refl _, h0 G1 H1 g1⟩
    (fun i σ' H' _ ⟨G', s', w⟩ => sqt_mono (hk i σ' G' H' w) (sqt_mono s' hl)) (fun i v σ' H' hi ⟨G', s', w⟩ => ?_) fun σ' H' ⟨G', _, w⟩ => hd σ' G' H' (by rw [← fit.length]; exact w)⟩
  obtain ⟨x, ex, rx⟩ := fit.getV hi
  exact hs G1 i x v σ' G' H' s' ex w (T.mono s' rx)
theorem q_forT {tl : TE} {g : TG} {xs : List α} (ha : EvT M tl σ G H (tTp K T) xs) (s : Same G H) (Iv : Nat → SS → Hp → Hp → Prop)
    (h0 : ∀ G1 H1, Grow NoM G H G1 H1 → Iv 0 σ G1 H1) (hk : ∀ i σ' G' H', Iv i σ' G' H' → Same G' H')
    (hs : ∀ G0 i x v σ' G' H', Same G0 G' → xs[i]? = some x → Iv i σ' G' H' → T.rel x v G' → g v σ' H' fun σ2 H2 => tu { D with nx := Nx Iv G0 (i + 1), ct := Nx Iv G0 (i + 1), bk := tz D } σ2 H2)
    (hd : ∀ σ' G' H', Iv xs.length σ' G' H' → tz D σ' H') : tSeq (tFor (iTup K tl) g tu) tz D σ H := s_forT (D := { D with nx := tz D }) ha s Iv h0 hk hs hd
/-! ### a stretch right -/
/-- what is handed: two lists, or two tuples -/
def tHd (K : PySem.W.Frag) (a b : List Nat) : Ty Bool := ⟨fun c v G => ∃ p u1 u2, v = .ref p ∧ SqT K G p [u1, u2] ∧ (c = false → (tLs tNat).rel a u1 G ∧ (tLs tNat).rel b u2 G) ∧ (c = true → (tTp K tNat).rel a u1 G ∧ (tTp K tNat).rel b u2 G),
  fun s ⟨p, u1, u2, e, h, f, t⟩ => ⟨p, u1, u2, e, sqt_mono s h, fun c => ⟨(tLs tNat).mono s (f c).1, (tLs tNat).mono s (f c).2⟩, fun c => ⟨(tTp K tNat).mono s (t c).1, (tTp K tNat).mono s (t c).2⟩⟩⟩
theorem ev_h0 {ta : TE} {a b : List Nat} (h : EvT M ta σ G H (tHd K a b) false) : EvT M (tOp (rIxT K) ta (tC (.int 0))) σ G H (tLs tNat) a :=
  ev_op h (ev_int (i := 0)) fun v w G1 H1 s sg r1 r2 Q k => by
    obtain ⟨p, u1, u2, rfl, hp, f, _⟩ := r1
    exact ⟨p, _, 0, u1, rfl, r2, sqt_mono s hp, rfl, k _ G1 H1 (Grow.refl s) (f rfl).1⟩
theorem ev_h1 {ta : TE} {a b : List Nat} (h : EvT M ta σ G H (tHd K a b) false) : EvT M (tOp (rIxT K) ta (tC (.int 1))) σ G H (tLs tNat) b :=
  ev_op h (ev_int (i := 1)) fun v w G1 H1 s sg r1 r2 Q k => by
    obtain ⟨p, u1, u2, rfl, hp, f, _⟩ := r1
    exact ⟨p, _, 1, u2, rfl, r2, sqt_mono s hp, rfl, k _ G1 H1 (Grow.refl s) (f rfl).2⟩
theorem ev_h0t {ta : TE} {a b : List Nat} (h : EvT M ta σ G H (tHd K a b) true) : EvT M (tOp (rIxT K) ta (tC (.int 0))) σ G H (tTp K tNat) a :=
  ev_op h (ev_int (i := 0)) fun v w G1 H1 s sg r1 r2 Q k => by
    obtain ⟨p, u1, u2, rfl, hp, _, t⟩ := r1
    exact ⟨p, _, 0, u1, rfl, r2, sqt_mono s hp, rfl, k _ G1 H1 (Grow.refl s) (t rfl).1⟩
theorem ev_h1t {ta : TE} {a b : List Nat} (h : EvT M ta σ G H (tHd K a b) true) : EvT M (tOp (rIxT K) ta (tC (.int 1))) σ G H (tTp K tNat) b :=
  ev_op h (ev_int (i := 1)) fun v w G1 H1 s sg r1 r2 Q k => by
    obtain ⟨p, u1, u2, rfl, hp, _, t⟩ := r1
    exact ⟨p, _, 1, u2, rfl, r2, sqt_mono s hp, rfl, k _ G1 H1 (Grow.refl s) (t rfl).2⟩
theorem lspec_right (N : SegK K) {W : Wd} (w : W.Ok) : Spec3 (sp_l_stretch_right K) tNat (tLs tNat) (tLs tNat) tBool W.L W.sp W.am true := by
  intro G H v0 v1 v2 Q E sm r0 r1 r2 k
  have hal := w.al
  have hsl := w.sl
  have bs : ∀ x ∈ W.sp, x ≤ 2 ^ 200 := fun x hx => Nat.le_trans (w.sb x hx) (by decide)
  have pl := plan_law w
  refine ⟨rfl, q_asg (M := NoM) (ev_repr2 bs w.ab (by omega) (by omega) (ev_var rfl r1) (ev_var rfl r2)) sm fun v3 G1 H1 g1 q3 => ?_⟩
  cases q3
  have r1a := (tLs tNat).mono g1.g r1
  have r2a := (tLs tNat).mono g1.g r2
  refine q_forT (M := NoM) (K := K) (T := tHd K W.sp W.am) (xs := [false, true]) (ev_tup2 (T := tHd K W.sp W.am) (x := false) (S := tHd K W.sp W.am) (y := true)
      (ev_tup2 (ev_var rfl r1a) (ev_var rfl r2a) fun p v w G1 h1 h2 e => ⟨p, v, w, rfl, SqT.of e, fun _ => ⟨h1, h2⟩, fun z => (by cases z)⟩)
      (ev_tup2 (ev_tupL (ev_var rfl r1a)) (ev_tupL (ev_var rfl r2a)) fun p v w G1 h1 h2 e => ⟨p, v, w, rfl, SqT.of e, fun z => (by cases z), fun _ => ⟨h1, h2⟩⟩)
      fun p v w G1 h1 h2 e => ⟨p, [v, w], rfl, SqT.of e, h1, h2, True.intro⟩) g1.s (fun i σ G' H' => ∃ u4 u5, σ = [some v0, some v1, some v2, some (.str (twoD W.sp W.am).shown), u4, u5] ∧ Grow NoM G1 H1 G' H')
    (fun G2 H2 g2 => ⟨none, none, rfl, g2⟩) (fun i σ G' H' ⟨_, _, _, g⟩ => g.s) ?_ ?_
  · rintro G0 i c u σ G2 H2 s0 hi ⟨u4, u5, rfl, g2⟩ ru
    have g12 := g1.trans g2
    have told : EvT NoM (tCall (sp_stretch_plan K) [] E0 (tCons (tVar 0) (tCons (tOp (rIxT K) (tVar 4) (tC (.int 0))) (tCons (tOp (rIxT K) (tVar 4) (tC (.int 1))) tNil)))) [some v0, some v1, some v2, some (.str (twoD W.sp W.am).shown), some u, u5] G2 H2 (tOpt (tLs (tRow K))) W.plan := by
      cases c with
      | false => exact ev_call3 (spec_planL N w) (ev_var rfl (tNat.mono g12.g r0)) (ev_h0 (ev_var rfl ru)) (ev_h1 (ev_var rfl ru))
      | true => exact ev_call3 (spec_planT N w) (ev_var rfl (tNat.mono g12.g r0)) (ev_h0t (ev_var rfl ru)) (ev_h1t (ev_var rfl ru))
    refine q_asg (M := NoM) told g2.s fun v5 G3 H3 g3 q5 => ?_
    have g13 := g12.trans g3
    refine s_if (M := NoM) (eb_not (eb_B (ev_call3 (lspec_can w) (ev_var rfl (tNat.mono g13.g r0)) (ev_var rfl ((tLs tNat).mono g13.g r1)) (ev_var rfl ((tLs tNat).mono g13.g r2))))) g3.s (fun hb G4 H4 g4 => ?_) fun hb G4 H4 g4 => ?_
    · cases ep : W.plan with
      | some res =>
        rw [ep] at pl
        rw [pl.1] at hb
        cases hb
      | none =>
        rw [ep] at q5
        refine s_when (M := NoM) (b := false) ((eb_test (ev_notN (T := tLs (tRow K)) (o := none) (ev_var rfl ((tOpt (tLs (tRow K))).mono g4.g q5)))).is rfl) g4.s (fun h => (by cases h)) fun _ G5 H5 g5 => ?_
        exact ⟨G5, s0.trans ((g3.trans g4).trans g5).g, some u, some v5, rfl, g2.trans ((g3.trans g4).trans g5)⟩
    · cases ep : W.plan with
      | none =>
        rw [ep] at pl
        rw [pl] at hb
        cases hb
      | some res =>
        rw [ep] at pl q5
        obtain ⟨_, lanes, inv⟩ := pl
        have g14 := g13.trans g4
        refine s_when (M := NoM) (b := false) ((eb_not (b := true) (eb_B (ev_call4 (lspec_does w inv) (ev_var rfl (tNat.mono g14.g r0)) (ev_var rfl ((tLs tNat).mono g14.g r1)) (ev_var rfl ((tLs tNat).mono g14.g r2)) (ev_var rfl ((tLs (tRow K)).mono g4.g q5.2))))).is rfl) g4.s (fun h => (by cases h)) fun _ G5 H5 g5 => ?_
        exact ⟨G5, s0.trans ((g3.trans g4).trans g5).g, some u, some v5, rfl, g2.trans ((g3.trans g4).trans g5)⟩
  · rintro σ G2 H2 ⟨u4, u5, rfl, g2⟩
    have g12 := g1.trans g2
    exact s_ret (M := NoM) (T := tBool) (x := true) (ev_eqStr (ev_repr2 bs w.ab (by omega) (by omega) (ev_var rfl ((tLs tNat).mono g12.g r1)) (ev_var rfl ((tLs tNat).mono g12.g r2))) (ev_var rfl rfl)) g2.s fun u G3 H3 g3 q3 => k u G3 H3 (g12.trans g3) q3
end
end My

/-! The pen: what it draws. -/
namespace My
open PySem PySem.Spec PyProof.Rows L2
open He (ga ma)
abbrev kvs3 (c : Addr) (a r : Int) : List (Key × V) := [(.inr "cells", .ref c), (.inr "at", .int a), (.inr "rest", .int r)]
theorem kne1 : ¬ ((Sum.inr "cells" : Key) = .inr "at") := by decide +kernel
theorem kne2 : ¬ ((Sum.inr "cells" : Key) = .inr "rest") := by decide +kernel
theorem kne3 : ¬ ((Sum.inr "at" : Key) = .inr "rest") := by decide +kernel
theorem sne1 : ¬ (Str.ofString "cells" = Str.ofString "at") := by decide +kernel
theorem sne2 : ¬ (Str.ofString "cells" = Str.ofString "rest") := by decide +kernel
theorem sne3 : ¬ (Str.ofString "at" = Str.ofString "rest") := by decide +kernel
theorem sne4 : ¬ (Str.ofString "rest" = Str.ofString "at") := by decide +kernel
theorem val_cells (c : Addr) (a r : Int) : valV (kvs3 c a r) (.inr "cells") = some (.ref c) := by rw [valV_pos rfl]
theorem val_at (c : Addr) (a r : Int) : valV (kvs3 c a r) (.inr "at") = some (.int a) := by rw [valV_neg kne1, valV_pos rfl]
theorem val_rest (c : Addr) (a r : Int) : valV (kvs3 c a r) (.inr "rest") = some (.int r) := by rw [valV_neg kne2, valV_neg kne3, valV_pos rfl]
theorem put_at (c : Addr) (a r b : Int) : putK (kvs3 c a r) (.inr "at") (.int b) = kvs3 c b r := by
  simp [putK, sne1, sne4]
theorem put_rest (c : Addr) (a r b : Int) : putK (kvs3 c a r) (.inr "rest") (.int b) = kvs3 c a b := by
  simp [putK, sne2, sne3]
theorem merge3 (c : Addr) (a r : Int) : mergeK [] (kvs3 c a r) = kvs3 c a r := by
  simp [mergeK, putK, sne1, sne2, sne3]
/-- the pen at P: its cells never change, it has drawn at most m times -/
def PenH (P : Addr) (m : Nat) (G H : Hp) : Prop := ∃ (c : Addr) (cs : List Int) (a r : Nat), G P = none ∧ H P = some (.dK (kvs3 c (a : Int) (r : Int))) ∧ G c = some (.lst (cs.map V.int)) ∧ cs.length ≤ 100000 ∧ a ≤ m
theorem PenH.grow {P : Addr} {m : Nat} {G H G1 H1 : Hp} (g : Grow NoM G H G1 H1) (h : PenH P m G H) : PenH P m G1 H1 := by
  obtain ⟨c, cs, a, r, h1, h2, h3, h4, h5⟩ := h
  exact ⟨c, cs, a, r, g.n P h1 (ne_none_of h2), g.hh P _ h2, g.g c _ h3, h4, h5⟩
theorem PenH.mono {P : Addr} {m n : Nat} {G H : Hp} (h : PenH P m G H) (hm : m ≤ n) : PenH P n G H := by
  obtain ⟨c, cs, a, r, h1, h2, h3, h4, h5⟩ := h
  exact ⟨c, cs, a, r, h1, h2, h3, h4, Nat.le_trans h5 hm⟩
theorem PenH.put {P l : Addr} {m : Nat} {G H : Hp} {o : HO} (h : PenH P m G H) (hl : l ≠ P) : PenH P m G (upd H l o) := by
  obtain ⟨c, cs, a, r, h1, h2, h3, h4, h5⟩ := h
  exact ⟨c, cs, a, r, h1, by rw [upd_ne (Ne.symm hl)]; exact h2, h3, h4, h5⟩
theorem PenH.frz {P l : Addr} {m : Nat} {G H : Hp} {o : HO} (h : PenH P m G H) (hl : l ≠ P) (hg : G l = none) : PenH P m (upd G l o) H := by
  obtain ⟨c, cs, a, r, h1, h2, h3, h4, h5⟩ := h
  exact ⟨c, cs, a, r, by rw [upd_ne (Ne.symm hl)]; exact h1, h2, by rw [upd_ne (ne_of_none h3 hg)]; exact h3, h4, h5⟩
section
variable {σ : SS} {G H : Hp} {K : PySem.W.Frag} {α β γ : Type} {T : Ty α} {S : Ty β} {U : Ty γ} {D : Ends} {tu tw tz : TS} {x : α} {y : β} {P : Addr}
theorem ev_dget {td : TE} {k : Str} {kvs : List (Key × V)} {v : V} {M : Addr → Prop} (hm : ¬ M P) (hH : H P = some (.dK kvs)) (hv : valV kvs (.inr k) = some v) (r : T.rel x v G) (ha : EvT M td σ G H tVal (.ref P)) : EvT M (tDGet td (tC (.str k))) σ G H T x := fun G1 H1 g Q kk => ha G1 H1 g _ fun w G2 H2 g2 r2 => by
  cases r2
  exact ⟨P, v, rfl, by rw [← hv]; exact DGet.k (k := .inr k) (g2.hh P _ (g.h P _ hm hH)), kk v G2 H2 g2 (T.mono (g.g.trans g2.g) r)⟩
theorem q_dput {td tv : TE} {k : Str} {kvs : List (Key × V)} {i : Int} (hl : kvs.length < sizeLine) (hH : H P = some (.dK kvs)) (hv : EvT NoM tv σ G H tInt i) (ha : EvT NoM td σ G H tVal (.ref P)) (s : Same G H)
    (kk : ∀ G1 H1, Grow NoM G H G1 H1 → H1 P = some (.dK kvs) → tz D σ (upd H1 P (.dK (putK kvs (.inr k) (.int i))))) : tSeq (sDPut td (tC (.str k)) tv) tz D σ H :=
  hv.go s fun v G1 H1 g1 r1 => ha G1 H1 g1 _ fun w G2 H2 g2 r2 => by
    cases r1
    cases r2
    have e := g2.hh P _ (g1.hh P _ hH)
    exact ⟨P, _, rfl, DPut.k (k := .inr k) e hl, kk G2 H2 (g1.trans g2) e⟩
theorem emod_nat {i : Int} {n : Nat} (hn : 0 < n) : ∃ r : Nat, i % (n : Int) = (r : Int) ∧ r < n := by
  have h1 := Int.emod_nonneg i (b := (n : Int)) (by omega)
  have h2 := Int.emod_lt_of_pos i (b := (n : Int)) (by omega)
  exact ⟨(i % (n : Int)).toNat, by omega, by omega⟩
theorem cdiv_nat {i : Int} {n : Nat} (hn : 0 < n) (h : n < 2 ^ 200) : CDivW i (n : Int) := wide_div (b := 200) (by omega) (by rw [Int.natAbs_natCast]; exact h) (by decide) (by decide)
theorem cell_bound {M i : Int} (h : 0 < M) (hM : M ≤ 2147483647) : 0 ≤ i % M ∧ i % M < 2147483647 := ⟨Int.emod_nonneg i (by omega), Int.lt_of_lt_of_le (Int.emod_lt_of_pos i h) hM⟩
/-- a draw: a number below n -/
theorem draw_run {m n : Nat} {Q : VK} {E : XK} (hp : PenH P m G H) (s : Same G H) (hm : m ≤ 2 ^ 60) (hn : 0 < n) (hn2 : n < 2 ^ 200) (k : ∀ (r : Nat) G' H', Grow (· = P) G H G' H' → PenH P (m + 1) G' H' → r < n → Q (.int (r : Int)) H') : sp_l_draw K [.ref P, .int (n : Int)] H Q E := by
  obtain ⟨c, cs, a, r, hg, hH, hc, hcl, ha⟩ := hp
  have fin : ∀ {te : TE} {σ : SS} {G1 H1 : Hp} {i : Int} {a2 r2 : Nat}, Grow (· = P) G H G1 H1 → G1 P = none → H1 P = some (.dK (kvs3 c (a2 : Int) (r2 : Int))) → G1 c = some (.lst (cs.map V.int)) → a2 ≤ m + 1 → EvT NoM te σ G1 H1 tInt i → 0 ≤ i → i < (n : Int) → tRet te { nx := fun _ H' => Q .non H', rt := Q } σ H1 := by
    intro te σ G1 H1 i a2 r2 g hg1 hH1 hc1 ha2 ht h0 h1
    refine s_ret (M := NoM) ht g.s fun v G2 H2 g2 q => ?_
    cases q
    obtain ⟨j, rfl⟩ : ∃ j : Nat, i = (j : Int) := ⟨i.toNat, by omega⟩
    exact k j G2 H2 (g.trans g2.up) (PenH.grow g2 ⟨c, cs, a2, r2, hg1, hH1, hc1, hcl, ha2⟩) (by omega)
  refine ⟨rfl, q_when (M := NoM) (eb_test (ev_gt (i := (r : Int)) (ev_dget (T := tInt) (fun z => z) hH (val_rest c a r) rfl (ev_var rfl rfl)) ev_int)) s (fun hb G1 H1 g1 => ?_) fun hb G1 H1 g1 => ?_⟩
  · have hH1 := g1.hh P _ hH
    refine q_asg (M := NoM) (T := tInt) (x := (r : Int) % (n : Int)) (ev_mod (by omega) (ev_dget (T := tInt) (x := (r : Int)) (fun z => z) hH1 (val_rest c a r) rfl (ev_var rfl rfl)) (ev_var rfl rfl)) g1.s fun v2 G2 H2 g2 q2 => ?_
    cases q2
    have hH2 := g2.hh P _ hH1
    refine q_dput (i := (r : Int) / (n : Int)) (by show 3 < sizeLine; decide) hH2 (ev_div (cdiv_nat hn hn2) (ev_dget (T := tInt) (x := (r : Int)) (fun z => z) hH2 (val_rest c a r) rfl (ev_var rfl rfl)) (ev_var rfl rfl)) (ev_var rfl rfl) g2.s fun G3 H3 g3 e3 => ?_
    have g13 := (g1.trans g2).trans g3
    have hg3 := g13.n P hg (ne_none_of hH)
    rw [put_rest]
    obtain ⟨j, ej, lj⟩ := emod_nat (i := (r : Int)) hn
    have ed : (r : Int) / (n : Int) = ((r / n : Nat) : Int) := (Int.natCast_ediv r n).symm
    refine fin (a2 := a) (r2 := r / n) ((g13.up).mutM rfl hg3) hg3 (by rw [upd_same, ed]) (g13.g c _ hc) (by omega) (ev_var rfl rfl) (by omega) (by omega)
  have hH1 := g1.hh P _ hH
  refine q_asg (M := NoM) (T := tInt) (x := (a : Int)) (ev_dget (T := tInt) (fun z => z) hH1 (val_at c a r) rfl (ev_var rfl rfl)) g1.s fun v3 G2 H2 g2 q3 => ?_
  cases q3
  have hH2 := g2.hh P _ hH1
  refine q_dput (i := (a : Int) + 1) (by show 3 < sizeLine; decide) hH2 (ev_add (ev_var rfl rfl) ev_int) (ev_var rfl rfl) g2.s fun G3 H3 g3 e3 => ?_
  rw [put_at]
  have g13 := (g1.trans g2).trans g3
  have hg3 := g13.n P hg (ne_none_of hH)
  have hc3 := g13.g c _ hc
  have gA : Grow (· = P) G H G3 (upd H3 P (.dK (kvs3 c ((a : Int) + 1) r))) := g13.up.mutM rfl hg3
  have hA : (upd H3 P (.dK (kvs3 c ((a : Int) + 1) r))) P = some (.dK (kvs3 c ((a : Int) + 1) r)) := upd_same
  generalize upd H3 P (.dK (kvs3 c ((a : Int) + 1) r)) = H4 at gA hA ⊢
  have fitc : Fits tInt (cs.map V.int) cs G3 := fits_ints
  have cells : ∀ {σ : SS} {G5 H5 : Hp}, Grow NoM G3 H4 G5 H5 → σ[0]? = some (some (.ref P)) → EvT NoM (tDGet (tVar 0) (tC (.str "cells"))) σ G5 H5 (tLs tInt) cs := fun {σ G5 H5} g h0 => ev_dget (T := tLs tInt) (fun z => z) (g.hh P _ hA) (val_cells c _ r) ⟨c, _, rfl, g.g c _ hc3, fitc.mono g.g⟩ (ev_var h0 rfl)
  refine q_asg (M := NoM) (T := tInt) (x := 31 * (a : Int) + 11) (ev_add (ev_mul (wmul (a := 100) (b := 100) (by decide) (by rw [Int.natAbs_natCast]; exact Nat.lt_of_le_of_lt (Nat.le_trans ha hm) (by decide)) (by decide)) ev_int (ev_var rfl rfl)) ev_int) gA.s fun v4 G5 H5 g5 q4 => ?_
  cases q4
  have tail : ∀ (cell : Int) (G6 H6 : Hp), Grow NoM G3 H4 G6 H6 → (tSeq (tIfS (tAnd (tTest (tOp rLtI (tVar 3) (tCB (rLenS K) (tCons (tDGet (tVar 0) (tC (.str "cells"))) tNil)))) (tTest (tOp rGeI (tCB rAbsI (tCons (tVar 4) tNil)) (tOp rPowI (tC (.int 10)) (tC (.int 18)))))) (tSeq (sDPut (tVar 0) (tC (.str "rest")) (tOp rDivW (tOp rSubI (tCB rAbsI (tCons (tVar 4) tNil)) (tOp rPowI (tC (.int 10)) (tC (.int 18)))) (tVar 1)))
    (tRet (tOp rModI (tOp rSubI (tCB rAbsI (tCons (tVar 4) tNil)) (tOp rPowI (tC (.int 10)) (tC (.int 18)))) (tVar 1))))
    tNext)
    (tSeq (tAsg (tOp rModI (tOp rAddI (tOp rAddI (tOp rAddI (tOp rMulW (tOp rModI (tVar 4) (tC (.int 2147483629))) (tC (.int 69621))) (tOp rMulW (tOp rMulW (tC (.int 40014)) (tVar 3)) (tVar 3))) (tOp rMulW (tC (.int 7919)) (tVar 3))) (tC (.int 12345))) (tC (.int 2147483587))) (gName 5))
    (tSeq (tAsg (tOp rModI (tOp rMulW (tVar 5) (tOp rAddI (tVar 5) (tC (.int 16807)))) (tC (.int 2147483563))) (gName 5))
    (tRet (tOp rModI (tOp rDivW (tOp rModI (tOp rMulW (tVar 5) (tVar 5)) (tC (.int 2147483647))) (tC (.int 128))) (tVar 1)))))) { nx := fun _ H' => Q .non H', rt := Q } [some (.ref P), some (.int (n : Int)), none, some (.int (a : Int)), some (.int cell), none] H6 := by
    intro cell G6 H6 g6
    have pw : ∀ {σ : SS} {G7 H7 : Hp}, EvT NoM (tOp rPowI (tC (.int 10)) (tC (.int 18))) σ G7 H7 tInt ((10 : Int) ^ (18 : Int).toNat) := fun {σ G7 H7} => ev_pow ⟨by decide, by decide, by decide⟩ ev_int ev_int
    refine q_when (M := NoM) (eb_and (eb_test (ev_lt (i := (a : Int)) (ev_var rfl rfl) (ev_len (cells g6 rfl)))) fun _ => eb_test (ev_ge (ev_abs (i := cell) (ev_var rfl rfl)) pw)) g6.s (fun hb G7 H7 g7 => ?_) fun hb G7 H7 g7 => ?_
    · have hge : (10 : Int) ^ (18 : Int).toNat ≤ (cell.natAbs : Int) := by
        have := (Bool.and_eq_true _ _ ▸ hb).2
        exact of_decide_eq_true this
      have g37 := g6.trans g7
      have hH7 := g37.hh P _ hA
      have sub : ∀ {G8 H8 : Hp}, EvT NoM (tOp rSubI (tCB rAbsI (tCons (tVar 4) tNil)) (tOp rPowI (tC (.int 10)) (tC (.int 18)))) [some (.ref P), some (.int (n : Int)), none, some (.int (a : Int)), some (.int cell), none] G8 H8 tInt ((cell.natAbs : Int) - (10 : Int) ^ (18 : Int).toNat) := fun {G8 H8} => ev_sub (ev_abs (i := cell) (ev_var rfl rfl)) pw
      refine q_dput (by show 3 < sizeLine; decide) hH7 (ev_div (cdiv_nat hn hn2) sub (ev_var rfl rfl)) (ev_var rfl rfl) g7.s fun G8 H8 g8 e8 => ?_
      rw [put_rest]
      have g38 := g37.trans g8
      have hg8 := g38.n P hg3 (ne_none_of hA)
      obtain ⟨z, ez⟩ : ∃ z : Nat, (cell.natAbs : Int) - (10 : Int) ^ (18 : Int).toNat = (z : Int) := ⟨((cell.natAbs : Int) - (10 : Int) ^ (18 : Int).toNat).toNat, by omega⟩
      obtain ⟨j, ej, lj⟩ := emod_nat (i := (z : Int)) hn
      have ed : (z : Int) / (n : Int) = ((z / n : Nat) : Int) := (Int.natCast_ediv z n).symm
      refine fin (a2 := a + 1) (r2 := z / n) (i := (z : Int) % (n : Int)) ((gA.trans g38.up).mutM rfl hg8) hg8 (by rw [upd_same, ez, ed]; rfl) (g38.g c _ hc3) (by omega) ((ev_mod (by omega) sub (ev_var rfl rfl)).is (by rw [ez])) (by omega) (by omega)
    have g37 := g6.trans g7
    have ab : ((a : Int)).natAbs < 2 ^ 100 := by rw [Int.natAbs_natCast]; exact Nat.lt_of_le_of_lt (Nat.le_trans ha hm) (by decide)
    have c1 := cell_bound (M := 2147483629) (i := cell) (by decide) (by decide)
    refine q_asg (M := NoM) (T := tInt) (ev_mod (by decide) (ev_add (ev_add (ev_add (ev_mul (wmul (a := 100) (b := 100) (by omega) (by decide) (by decide)) (ev_mod (by decide) (ev_var (T := tInt) (x := cell) rfl rfl) ev_int) ev_int) (ev_mul (wmul (a := 200) (b := 100) (wide_lt (a := 101) (b := 100) (i := 40014) (by decide) ab) (Nat.lt_trans ab (by decide)) (by decide)) (ev_mul (wmul (a := 100) (b := 100) (by decide) (Nat.lt_trans ab (by decide)) (by decide)) ev_int (ev_var (T := tInt) (x := (a : Int)) rfl rfl)) (ev_var (T := tInt) (x := (a : Int)) rfl rfl)))
      (ev_mul (wmul (a := 100) (b := 100) (by decide) (Nat.lt_trans ab (by decide)) (by decide)) ev_int (ev_var (T := tInt) (x := (a : Int)) rfl rfl))) ev_int) ev_int) g7.s fun v5 G8 H8 g8 q5 => ?_
    cases q5
    generalize (cell % 2147483629 * 69621 + 40014 * (a : Int) * (a : Int) + 7919 * (a : Int) + 12345) = w5
    have c2 := cell_bound (M := 2147483587) (i := w5) (by decide) (by decide)
    generalize w5 % 2147483587 = w6 at c2
    refine q_asg (M := NoM) (T := tInt) (x := w6 * (w6 + 16807) % 2147483563) (ev_mod (by decide) (ev_mul (wmul (a := 100) (b := 100) (by omega) (by omega) (by decide)) (ev_var rfl rfl) (ev_add (ev_var rfl rfl) ev_int)) ev_int) g8.s fun v6 G9 H9 g9 q6 => ?_
    cases q6
    have c3 := cell_bound (M := 2147483563) (i := w6 * (w6 + 16807)) (by decide) (by decide)
    generalize w6 * (w6 + 16807) % 2147483563 = w7 at c3
    have g39 := (g37.trans g8).trans g9
    obtain ⟨j, ej, lj⟩ := emod_nat (i := w7 * w7 % 2147483647 / 128) hn
    refine fin (a2 := a + 1) (r2 := r) (i := w7 * w7 % 2147483647 / 128 % (n : Int)) (gA.trans g39.up) (g39.n P hg3 (ne_none_of hA)) (by rw [g39.hh P _ hA]; rfl) (g39.g c _ hc3) (by omega) (ev_mod (by omega) (ev_div (wide_div (b := 100) (by decide) (by decide) (by decide) (by decide)) (ev_mod (by decide) (ev_mul (wmul (a := 100) (b := 100) (by omega) (by omega) (by decide)) (ev_var rfl rfl) (ev_var rfl rfl)) ev_int) ev_int) (ev_var rfl rfl)) (by omega) (by omega)
  refine q_if (M := NoM) (eb_test (ev_neD (datLs datInt) (by show (1 : Nat) ≤ 64; decide) (y := ([] : List Int)) (cells g5 rfl) ev_nilL)) g5.s (fun hb G6 H6 g6 => ?_) fun hb G6 H6 g6 => ?_
  · have hne : cs ≠ [] := by simpa using hb
    have hpos : 0 < cs.length := List.length_pos_iff.mpr hne
    obtain ⟨j, ej, lj⟩ := emod_nat (i := (a : Int)) hpos
    refine s_asg (M := NoM) (T := tInt) (x := cs[j]) (ev_ix (i := (a : Int) % (cs.length : Int)) (j := j) ej (List.getElem?_eq_getElem lj) (cells (g5.trans g6) rfl) (ev_mod (by omega) (ev_var rfl rfl) (ev_len (cells (g5.trans g6) rfl)))) g6.s fun v7 G7 H7 g7 q7 => ?_
    cases q7
    exact tail cs[j] G7 H7 ((g5.trans g6).trans g7)
  · exact tail _ G6 H6 (g5.trans g6)
end
end My

/-! Drawing: picks, shuffles, lists of draws; amounts poured. -/
namespace My
open PySem PySem.Spec PyProof.Rows L2
open He (ga ma)
section
variable {σ : SS} {G H : Hp} {K : PySem.W.Frag} {α β γ : Type} {T : Ty α} {S : Ty β} {U : Ty γ} {D : Ends} {tu tw tz : TS} {x : α} {y : β} {P : Addr}
/-- a reading that draws: at most c times -/
def EvP (P : Addr) (c : Nat) (te : TE) (σ : SS) (G H : Hp) (T : Ty α) (φ : α → Prop) : Prop := ∀ G1 H1 m, Grow (· = P) G H G1 H1 → PenH P m G1 H1 → m + c ≤ 2 ^ 60 → ∀ Q : VK, (∀ x v G2 H2, Grow (· = P) G1 H1 G2 H2 → PenH P (m + c) G2 H2 → φ x → T.rel x v G2 → Q v H2) → te σ H1 Q
/-- .. a new list that will change -/
def EvPM (P : Addr) (c : Nat) (te : TE) (σ : SS) (G H : Hp) (T : Ty α) (φ : List α → Prop) : Prop := ∀ G1 H1 m, Grow (· = P) G H G1 H1 → PenH P m G1 H1 → m + c ≤ 2 ^ 60 → ∀ Q : VK, (∀ xs p vs G2 H2, Grow (· = P) G1 H1 G2 H2 → PenH P (m + c) G2 H2 → φ xs → H1 p = none → G2 p = none → H2 p = some (.lst vs) → Fits T vs xs G2 → Q (.ref p) H2) → te σ H1 Q
/-- .. a test -/
def EvPB (P : Addr) (c : Nat) (tt : TT) (σ : SS) (G H : Hp) (φ : Bool → Prop) : Prop := ∀ G1 H1 m, Grow (· = P) G H G1 H1 → PenH P m G1 H1 → m + c ≤ 2 ^ 60 → ∀ Q : Bool → Hp → Prop, (∀ b G2 H2, Grow (· = P) G1 H1 G2 H2 → PenH P (m + c) G2 H2 → φ b → Q b H2) → tt σ H1 Q
theorem p_pure {te : TE} (h : EvT (· = P) te σ G H T x) : EvP P 0 te σ G H T (· = x) := fun G1 H1 m g pen hm Q k => h G1 H1 g Q fun v G2 H2 g2 r2 => k x v G2 H2 g2.up (pen.grow g2) rfl r2
theorem p_weak {te : TE} {c d : Nat} {φ ψ : α → Prop} (hc : c ≤ d) (hp : ∀ x, φ x → ψ x) (h : EvP P c te σ G H T φ) : EvP P d te σ G H T ψ := fun G1 H1 m g pen hm Q k => h G1 H1 m g pen (by omega) Q fun x v G2 H2 g2 p2 f r => k x v G2 H2 g2 (p2.mono (by omega)) (hp x f) r
theorem p_draw {tn : TE} {i n : Nat} (hi : σ[i]? = some (some (.ref P))) (hn : 0 < n) (hn2 : n < 2 ^ 200) (h : EvT (· = P) tn σ G H tInt (n : Int)) : EvP P 1 (tCall (sp_l_draw K) [] E0 (tCons (tVar i) (tCons tn tNil))) σ G H tNat (· < n) :=
  fun G1 H1 m g pen hm Q k => ⟨_, hi, h G1 H1 g _ fun v G2 H2 g2 r2 => by
    cases r2
    exact draw_run (E := E0) (pen.grow g2) g2.s (by omega) hn hn2 fun r G' H' g' pen' lt => k r _ G' H' (g2.up.trans g') pen' lt rfl⟩
theorem pick_run {m : Nat} {Q : VK} {E : XK} {v : V} {xs : List α} (hp : PenH P m G H) (s : Same G H) (hm : m ≤ 2 ^ 60) (r : (tLs T).rel xs v G) (hn : 0 < xs.length) (hn2 : xs.length < 2 ^ 200) (k : ∀ x w G' H', x ∈ xs → Grow (· = P) G H G' H' → PenH P (m + 1) G' H' → T.rel x w G' → Q w H') : sp_l_pick K [.ref P, v] H Q E := by
  refine ⟨rfl, v, rfl, .ref P, rfl, (ev_len (M := NoM) (σ := start n_l_pick [.ref P, v]) (ev_var rfl r)) G H (Grow.refl s) _ fun u G1 H1 g1 r1 => ?_⟩
  cases r1
  refine draw_run (E := E0) (hp.grow g1) g1.s hm hn hn2 fun j G2 H2 g2 pen2 lt => ?_
  obtain ⟨p, vs, rfl, hl, f⟩ := r
  obtain ⟨w, e1, e2⟩ := f.get (List.getElem?_eq_getElem lt)
  exact ⟨p, vs, (j : Int), w, rfl, rfl, SqL.of (g2.s p _ (g2.g p _ (g1.g p _ hl))), atI_nat e1, k _ w G2 H2 (List.getElem_mem lt) (g1.up.trans g2) pen2 (T.mono (g1.g.trans g2.g) e2)⟩
theorem p_pick {te : TE} {i : Nat} {xs : List α} (hi : σ[i]? = some (some (.ref P))) (hn : 0 < xs.length) (hn2 : xs.length < 2 ^ 200) (h : EvT (· = P) te σ G H (tLs T) xs) : EvP P 1 (tCall (sp_l_pick K) [] E0 (tCons (tVar i) (tCons te tNil))) σ G H T (· ∈ xs) :=
  fun G1 H1 m g pen hm Q k => ⟨_, hi, h G1 H1 g _ fun v G2 H2 g2 r2 => pick_run (E := E0) (pen.grow g2) g2.s (by omega) r2 hn hn2 fun x w G' H' hx g' pen' r' => k x w G' H' (g2.up.trans g') pen' hx r'⟩
theorem p_II {ta tb : TE} {c d : Nat} {φ ψ : Nat → Prop} {r : R2} {χ : γ → Prop} (ha : EvP P c ta σ G H tNat φ) (hb : EvP P d tb σ G H tNat ψ) (hr : ∀ (i j : Nat), φ i → ψ j → ∀ (H1 : Hp) (Q : VK), (∀ z u, χ z → (∀ G, U.rel z u G) → Q u H1) → r (.int (i : Int)) (.int (j : Int)) H1 Q) : EvP P (c + d) (tOp r ta tb) σ G H U χ :=
  fun G1 H1 m g pen hm Q k => ha G1 H1 m g pen (by omega) _ fun i v G2 H2 g2 p2 f r2 => hb G2 H2 (m + c) (g.trans g2) p2 (by omega) _ fun j w G3 H3 g3 p3 f3 r3 => by
    cases r2
    cases r3
    exact hr i j f f3 H3 Q fun z u hz hu => k z u G3 H3 (g2.trans g3) (by rw [← Nat.add_assoc]; exact p3) hz (hu G3)
theorem p_add {ta tb : TE} {c d : Nat} {φ ψ : Nat → Prop} (ha : EvP P c ta σ G H tNat φ) (hb : EvP P d tb σ G H tNat ψ) : EvP P (c + d) (tOp rAddI ta tb) σ G H tNat (fun n => ∃ i j, φ i ∧ ψ j ∧ n = i + j) :=
  p_II ha hb fun i j f g H1 Q k => ⟨i, j, rfl, rfl, k (i + j) _ ⟨i, j, f, g, rfl⟩ fun _ => rfl⟩
theorem p_mul {ta tb : TE} {c d : Nat} {φ ψ : Nat → Prop} (ha : EvP P c ta σ G H tNat φ) (hb : EvP P d tb σ G H tNat ψ) (hc : ∀ i j, φ i → ψ j → CMulW (i : Int) (j : Int)) : EvP P (c + d) (tOp rMulW ta tb) σ G H tNat (fun n => ∃ i j, φ i ∧ ψ j ∧ n = i * j) :=
  p_II ha hb fun i j f g H1 Q k => ⟨(i : Int), (j : Int), rfl, rfl, hc i j f g, k (i * j) _ ⟨i, j, f, g, rfl⟩ fun _ => congrArg V.int (Int.natCast_mul i j).symm⟩
theorem p_div {ta tb : TE} {c d : Nat} {φ ψ : Nat → Prop} (ha : EvP P c ta σ G H tNat φ) (hb : EvP P d tb σ G H tNat ψ) (hc : ∀ i j, φ i → ψ j → CDivW (i : Int) (j : Int)) : EvP P (c + d) (tOp rDivW ta tb) σ G H tNat (fun n => ∃ i j, φ i ∧ ψ j ∧ n = i / j) :=
  p_II ha hb fun i j f g H1 Q k => ⟨(i : Int), (j : Int), rfl, rfl, hc i j f g, k (i / j) _ ⟨i, j, f, g, rfl⟩ fun _ => congrArg V.int (Int.natCast_ediv i j).symm⟩
theorem p_cmp {ta tb : TE} {c d : Nat} {φ ψ : Nat → Prop} {f : Int → Int → Bool} {r : R2} (ha : EvP P c ta σ G H tNat φ) (hb : EvP P d tb σ G H tNat ψ) (hr : ∀ (i j : Int) (H1 : Hp) (Q : VK), Q (.bl (f i j)) H1 → r (.int i) (.int j) H1 Q) : EvPB P (c + d) (tTest (tOp r ta tb)) σ G H (fun _ => True) :=
  fun G1 H1 m g pen hm Q k => ha G1 H1 m g pen (by omega) _ fun i v G2 H2 g2 p2 _ r2 => hb G2 H2 (m + c) (g.trans g2) p2 (by omega) _ fun j w G3 H3 g3 p3 _ r3 => by
    cases r2
    cases r3
    exact hr i j H3 _ ⟨_, rfl, k _ G3 H3 (g2.trans g3) (by rw [← Nat.add_assoc]; exact p3) True.intro⟩
theorem pb_pure {tt : TT} {b : Bool} (h : EvB (· = P) tt σ G H b) : EvPB P 0 tt σ G H (· = b) := fun G1 H1 m g pen hm Q k => h G1 H1 g Q fun G2 H2 g2 => k b G2 H2 g2.up (pen.grow g2) rfl
theorem pb_and {t u : TT} {c d : Nat} {φ ψ : Bool → Prop} (h1 : EvPB P c t σ G H φ) (h2 : φ true → EvPB P d u σ G H ψ) : EvPB P (c + d) (tAnd t u) σ G H (fun b => b = true → φ true ∧ ψ true) :=
  fun G1 H1 m g pen hm Q k => h1 G1 H1 m g pen (by omega) _ fun b G2 H2 g2 p2 f => by
    cases b with
    | true =>
      show u σ H2 Q
      exact h2 f G2 H2 (m + c) (g.trans g2) p2 (by omega) Q fun b2 G3 H3 g3 p3 f3 => k b2 G3 H3 (g2.trans g3) (by rw [← Nat.add_assoc]; exact p3) fun e => ⟨f, e ▸ f3⟩
    | false =>
      show Q false H2
      exact k false G2 H2 g2 (p2.mono (by omega)) fun e => by cases e
/-! ### lists of draws -/
theorem p_lcM {t1 te : TE} {j : Nat} {vs0 : List Nat} {c1 c2 B : Nat} {φ : Nat → Prop} {ψ : β → Prop} (h1 : EvP P c1 t1 σ G H tNat φ) (hB : ∀ n, φ n → n ≤ B) (hB2 : B ≤ 100000) (hw : ∀ x, wipe ((wipe σ vs0).set j (some x)) vs0 = wipe σ vs0)
    (he : ∀ (i : Nat) G1 H1, Grow (· = P) G H G1 H1 → EvP P c2 te ((wipe σ vs0).set j (some (.int (i : Int)))) G1 H1 S ψ) :
    EvPM P (c1 + B * c2) (tLc (iRng1 (tCons t1 tNil)) (gName j) tYes te vs0) σ G H S (fun xs => φ xs.length ∧ ∀ x ∈ xs, ψ x) := fun G1 H1 m g pen hm Q k => h1 G1 H1 m g pen (by omega) _ fun n v G2 H2 g2 p2 f r2 => by
    cases r2
    have hn := hB n f
    refine ⟨(n : Int), rfl, by omega, by omega, fun D hD => ?_⟩
    rw [Int.toNat_natCast]
    have hD2 : G2 D = none := Same.none g2.s hD
    have hDP : D ≠ P := fun e => by
      obtain ⟨c, cs, a, r, h1, h2, _⟩ := p2
      rw [e, h2] at hD
      cases hD
    have bnd : ∀ i, i ≤ n → i * c2 ≤ B * c2 := fun i hi => Nat.mul_le_mul_right _ (Nat.le_trans hi hn)
    refine lc_range (fun i H' => ∃ G' ws xs, Grow (· = P) G2 H2 G' H' ∧ PenH P (m + c1 + i * c2) G' H' ∧ G' D = none ∧ H' D = some (.lst ws) ∧ Fits S ws xs G' ∧ xs.length = i ∧ ∀ x ∈ xs, ψ x)
      ⟨G2, [], [], (Grow.refl g2.s).made hD, by rw [Nat.zero_mul, Nat.add_zero]; exact p2.put hDP, hD2, upd_same, True.intro, rfl, fun x hx => by simp at hx⟩ ?_ ?_
    · rintro i H' hi ⟨G', ws, xs, g3, p3, hG, hH, ff, lx, hx⟩
      have b1 := bnd (i + 1) hi
      have e1 : (i + 1) * c2 = i * c2 + c2 := by rw [Nat.add_mul, Nat.one_mul]
      refine ⟨hw _, ?_⟩
      show te ((wipe σ vs0).set j (some (.int (0 + (i : Int))))) H' _
      rw [Int.zero_add]
      refine he i G' H' ((g.trans g2).trans g3) G' H' (m + c1 + i * c2) (Grow.refl g3.s) p3 (by omega) _ fun y w G5 H5 g5 p5 fy r5 => ?_
      have hG5 : G5 D = none := g5.n D hG (ne_none_of hH)
      have hH5 : H5 D = some (.lst ws) := g5.h D _ hDP hH
      refine ⟨ws, hH5, by rw [ff.length, lx, sizeLine_eq]; omega, G5, ws ++ [w], xs ++ [y], ((g3.trans g5).mut hD hG5), ?_, hG5, upd_same, (ff.mono g5.g).append (Fits.one r5), by rw [List.length_append, lx]; rfl, fun z hz => ?_⟩
      · rw [e1, ← Nat.add_assoc]
        exact p5.put hDP
      · rcases List.mem_append.mp hz with hz | hz
        · exact hx z hz
        · have : z = y := by simpa using hz
          rw [this]
          exact fy
    · rintro H' ⟨G', ws, xs, g3, p3, hG, hH, ff, lx, hx⟩
      exact k xs D ws G' H' (g2.trans g3) (p3.mono (by have := bnd n (Nat.le_refl _); omega)) ⟨by rw [lx]; exact f, hx⟩ (g2.new hD) hG hH ff
/-- .. not changed again -/
theorem pen_ne {m : Nat} {p : Addr} (pen : PenH P m G H) (h : H p = none) : p ≠ P := fun e => by
  obtain ⟨c, cs, a, r, h1, h2, _⟩ := pen
  rw [e, h2] at h
  cases h
theorem p_froz {te : TE} {c : Nat} {φ : List α → Prop} (h : EvPM P c te σ G H T φ) : EvP P c te σ G H (tLs T) φ := fun G1 H1 m g pen hm Q k => h G1 H1 m g pen hm Q fun xs p vs G2 H2 g2 p2 f hp hg e ff =>
  k xs _ (upd G2 p (.lst vs)) H2 (g2.freeze hp hg e) (p2.frz (pen_ne pen hp) hg) f ⟨p, vs, rfl, upd_same, ff.mono (same_upd hg)⟩
/-! ### statements -/
theorem p_asg {te : TE} {i c m : Nat} {φ : α → Prop} (h : EvP P c te σ G H T φ) (s : Same G H) (pen : PenH P m G H) (hm : m + c ≤ 2 ^ 60) (k : ∀ x v G1 H1, Grow (· = P) G H G1 H1 → PenH P (m + c) G1 H1 → φ x → T.rel x v G1 → tz D (σ.set i (some v)) H1) : tSeq (tAsg te (gName i)) tz D σ H :=
  h G H m (Grow.refl s) pen hm _ k
theorem p_asgS {te : TE} {i c m : Nat} {φ : α → Prop} (h : EvP P c te σ G H T φ) (s : Same G H) (pen : PenH P m G H) (hm : m + c ≤ 2 ^ 60) (k : ∀ x v G1 H1, Grow (· = P) G H G1 H1 → PenH P (m + c) G1 H1 → φ x → T.rel x v G1 → D.nx (σ.set i (some v)) H1) : tAsg te (gName i) D σ H :=
  h G H m (Grow.refl s) pen hm _ k
theorem p_asgM {te : TE} {i c m : Nat} {φ : List α → Prop} (h : EvPM P c te σ G H T φ) (s : Same G H) (pen : PenH P m G H) (hm : m + c ≤ 2 ^ 60) (k : ∀ xs p vs G1 H1, Grow (· = P) G H G1 H1 → PenH P (m + c) G1 H1 → φ xs → H p = none → G1 p = none → H1 p = some (.lst vs) → Fits T vs xs G1 → tz D (σ.set i (some (.ref p))) H1) : tSeq (tAsg te (gName i)) tz D σ H :=
  h G H m (Grow.refl s) pen hm _ k
theorem p_asgMS {te : TE} {i c m : Nat} {φ : List α → Prop} (h : EvPM P c te σ G H T φ) (s : Same G H) (pen : PenH P m G H) (hm : m + c ≤ 2 ^ 60) (k : ∀ xs p vs G1 H1, Grow (· = P) G H G1 H1 → PenH P (m + c) G1 H1 → φ xs → H p = none → G1 p = none → H1 p = some (.lst vs) → Fits T vs xs G1 → D.nx (σ.set i (some (.ref p))) H1) : tAsg te (gName i) D σ H :=
  h G H m (Grow.refl s) pen hm _ k
theorem p_tup2 {ta tb : TE} {i j c d m : Nat} {φ : α → Prop} {ψ : β → Prop} (ha : EvP P c ta σ G H T φ) (hb : EvP P d tb σ G H S ψ) (s : Same G H) (pen : PenH P m G H) (hm : m + (c + d) ≤ 2 ^ 60)
    (k : ∀ x y v w G1 H1, Grow (· = P) G H G1 H1 → PenH P (m + (c + d)) G1 H1 → φ x → ψ y → T.rel x v G1 → S.rel y w G1 → tz D ((σ.set i (some v)).set j (some w)) H1) : tSeq (tAsg (tTup (tCons ta (tCons tb tNil))) (gTup K 2 (gCons (gName i) (gCons (gName j) gNil)))) tz D σ H :=
  ha G H m (Grow.refl s) pen (by omega) _ fun x v G1 H1 g1 p1 f1 r1 => hb G1 H1 (m + c) g1 p1 (by omega) _ fun y w G2 H2 g2 p2 f2 r2 => ⟨by show 2 ≤ sizeLine; decide, fun p hp => by
    have e0 : G2 p = none := Same.none g2.s hp
    have g3 : Grow (· = P) G H (upd G2 p (.tup [v, w])) (upd H2 p (.tup [v, w])) := (g1.trans g2).alloc hp
    have p3 : PenH P (m + (c + d)) (upd G2 p (.tup [v, w])) (upd H2 p (.tup [v, w])) := ((p2.frz (pen_ne p2 hp) e0).put (pen_ne p2 hp)).mono (by omega)
    exact ⟨p, [v, w], rfl, SqT.of upd_same, rfl, _, _, rfl, _, _, rfl, rfl, k x y v w _ _ g3 p3 f1 f2 (T.mono (g2.g.trans (same_upd e0)) r1) (S.mono (same_upd e0) r2)⟩⟩
theorem p_if {t : TT} {c m : Nat} {φ : Bool → Prop} (h : EvPB P c t σ G H φ) (s : Same G H) (pen : PenH P m G H) (hm : m + c ≤ 2 ^ 60) (h1 : φ true → ∀ G1 H1, Grow (· = P) G H G1 H1 → PenH P (m + c) G1 H1 → tu { D with nx := tz D } σ H1) (h2 : φ false → ∀ G1 H1, Grow (· = P) G H G1 H1 → PenH P (m + c) G1 H1 → tw { D with nx := tz D } σ H1) : tSeq (tIfS t tu tw) tz D σ H :=
  h G H m (Grow.refl s) pen hm _ fun b G1 H1 g p f => by
    cases b with
    | true => exact h1 f G1 H1 g p
    | false => exact h2 f G1 H1 g p
/-! ### shuffled -/
theorem em_listS {ta : TE} {M : Addr → Prop} {xs : List α} (ha : EvT M ta σ G H (tLs T) xs) : EvM M (tCB (rListS K) (tCons ta tNil)) σ G H T xs := fun G1 H1 g Q k => ha G1 H1 g _ fun v G2 H2 g2 r2 => by
  obtain ⟨p, vs, rfl, hp, f⟩ := r2
  exact ⟨p, vs, rfl, .inl (SqL.of (g2.s p _ hp)), fun l hl => k l vs G2 _ (g2.made hl) (g2.new hl) (Same.none g2.s hl) upd_same f⟩
theorem ev_neM {M : Addr → Prop} {l : Addr} {vs : List V} {xs : List Nat} (hm : ¬ M l) (hl : H l = some (.lst vs)) (hg : G l = none) (f : Fits tNat vs xs G) {i : Nat} (hi : σ[i]? = some (some (.ref l))) : EvT M (tOp (rNeD K) (tVar i) (tLst tNil)) σ G H tBool (!decide (xs = [])) :=
  ev_temp (U := tBool) (l := l) (o := .lst vs) hm hl hg (fun v z G G' h => h) (ev_neD (datLs datNat) (by show (1 : Nat) ≤ 64; decide) (y := ([] : List Nat)) (ev_var hi ⟨l, vs, rfl, upd_same, f.mono (same_upd hg)⟩) ev_nilL)
theorem erase_perm {xs : List Nat} {i : Nat} (h : i < xs.length) : (xs[i] :: xs.eraseIdx i).Perm xs := by
  induction xs generalizing i with
  | nil => simp at h
  | cons x r ih =>
    cases i with
    | zero => exact .refl _
    | succ i =>
      have hi : i < r.length := by simpa using h
      exact (List.Perm.swap x _ _).trans ((ih hi).cons x)
theorem shuffled_run {m : Nat} {Q : VK} {E : XK} {v : V} {xs : List Nat} (pen : PenH P m G H) (s : Same G H) (hm : m + xs.length ≤ 2 ^ 60) (hx : xs.length ≤ 100000) (r : (tLs tNat).rel xs v G)
    (k : ∀ ys p vs G' H', Grow (· = P) G H G' H' → PenH P (m + xs.length) G' H' → ys.Perm xs → H p = none → G' p = none → H' p = some (.lst vs) → Fits tNat vs ys G' → Q (.ref p) H') : sp_l_shuffled K [.ref P, v] H Q E := by
  refine ⟨rfl, q_parMM (M := NoM) (T := tNat) (S := tNat) (xs := xs) (ys := []) (em_listS (ev_var rfl r)) em_nil s fun q ws0 p vs0 G1 H1 g1 hq hgq hlq fq hp hgp hlp fp hne => ?_⟩
  have hPq : q ≠ P := pen_ne pen hq
  have hPp : p ≠ P := pen_ne pen hp
  refine q_while (fun n σ G' H' => ∃ left found ws us, σ = [some (.ref P), some v, some (.ref q), some (.ref p)] ∧ Grow (· = P) G H G' H' ∧ PenH P (m + (xs.length - left.length)) G' H' ∧ G' q = none ∧ H' q = some (.lst ws) ∧ Fits tNat ws left G' ∧ G' p = none ∧ H' p = some (.lst us) ∧ Fits tNat us found G' ∧ (found ++ left).Perm xs ∧ left.length = n) xs.length
    ⟨xs, [], ws0, vs0, rfl, g1.up, (pen.grow g1).mono (by omega), hgq, hlq, fq, hgp, hlp, fp, .refl _, rfl⟩ ?_
  rintro n σ G2 H2 ⟨left, found, ws, us, rfl, g2, p2, hgq, hlq, fq, hgp, hlp, fp, hperm, rfl⟩
  refine ⟨g2.s, _, eb_test (ev_neM (l := q) (fun z => z) hlq hgq fq rfl), fun hb G3 H3 g3 => ?_, fun hb G3 H3 g3 => ?_⟩
  · have hne2 : left ≠ [] := by simpa using hb
    have hpos : 0 < left.length := List.length_pos_iff.mpr hne2
    have hlen : found.length + left.length = xs.length := by rw [← List.length_append]; exact hperm.length_eq
    have hq3 := g3.hh q _ hlq
    have hp3 := g3.hh p _ hlp
    have lws : ws.length = left.length := fq.length
    have lus : us.length = found.length := fp.length
    refine ⟨.ref p, rfl, .inl ⟨rfl, _, SqL.of hp3⟩, .ref q, rfl, .inl ⟨rfl, _, SqL.of hq3⟩, .ref P, rfl, .ref q, rfl, q, ws, rfl, .inl (SqL.of hq3), ?_⟩
    rw [lws]
    refine draw_run (E := E0) (p2.grow g3) g3.s (by omega) hpos (Nat.lt_of_le_of_lt (show left.length ≤ 100000 by omega) (by decide)) fun j G4 H4 g4 p4 lt => ?_
    have hq4 := g4.h q _ hPq hq3
    have hp4 := g4.h p _ hPp hp3
    have hgq4 := g4.n q (g3.n q hgq (ne_none_of hlq)) (ne_none_of hq3)
    have hgp4 := g4.n p (g3.n p hgp (ne_none_of hlp)) (ne_none_of hp3)
    have jw : j < ws.length := by omega
    refine ⟨q, ws, (j : Int), j, ws[j], rfl, rfl, hq4, by omega, by omega, ?_, List.getElem?_eq_getElem jw, ?_⟩
    · unfold seqIndex?
      simp
      omega
    refine ⟨p, us, ws[j], rfl, rfl, by rw [upd_ne (Ne.symm hne)]; exact hp4, by rw [lus, sizeLine_eq]; omega, ?_⟩
    have g5 : Grow (· = P) G H G4 (upd (upd H4 q (.lst (ws.eraseIdx j))) p (.lst (us ++ [ws[j]]))) := (((g2.trans g3.up).trans g4).mut hq hgq4).mut hp hgp4
    have le : (left.eraseIdx j).length = left.length - 1 := by rw [List.length_eraseIdx]; rw [if_pos lt]
    have f4 := fq.mono (g3.g.trans g4.g)
    obtain ⟨w, e1, e2⟩ := f4.get (List.getElem?_eq_getElem lt)
    have ew : w = ws[j] := by rw [List.getElem?_eq_getElem jw] at e1; exact (Option.some.inj e1).symm
    subst ew
    refine ⟨(left.eraseIdx j).length, G4, by omega, left.eraseIdx j, found ++ [left[j]], ws.eraseIdx j, us ++ [ws[j]], rfl, g5, ((p4.put hPq).put hPp).mono (by omega), hgq4, by rw [upd_ne hne]; exact upd_same, f4.eraseIdx j, hgp4, upd_same, (fp.mono (g3.g.trans g4.g)).append (Fits.one e2), ?_, rfl⟩
    rw [List.append_assoc]
    exact ((erase_perm lt).append_left found).trans hperm
  · have hz : left = [] := by simpa using hb
    subst hz
    rw [List.append_nil] at hperm
    refine ⟨.ref p, rfl, ?_⟩
    exact k found p us G3 H3 (g2.trans g3.up) ((p2.grow g3).mono (by simp)) hperm hp (g3.n p hgp (ne_none_of hlp)) (g3.hh p _ hlp) (fp.mono g3.g)
theorem p_shuf {te : TE} {i c B : Nat} {φ : List Nat → Prop} (hi : σ[i]? = some (some (.ref P))) (hB : ∀ xs, φ xs → xs.length ≤ B) (hB2 : B ≤ 100000) (h : EvP P c te σ G H (tLs tNat) φ) : EvPM P (c + B) (tCall (sp_l_shuffled K) [] E0 (tCons (tVar i) (tCons te tNil))) σ G H tNat (fun ys => ∃ xs, φ xs ∧ ys.Perm xs) :=
  fun G1 H1 m g pen hm Q k => ⟨_, hi, h G1 H1 m g pen (by omega) _ fun xs v G2 H2 g2 p2 f r2 => shuffled_run (E := E0) p2 g2.s (by have := hB xs f; omega) (Nat.le_trans (hB xs f) hB2) r2 fun ys p vs G' H' g' pen' hp hn hg e ff => k ys p vs G' H' (g2.trans g') (pen'.mono (by have := hB xs f; omega)) ⟨xs, f, hp⟩ (g2.new hn) hg e ff⟩
end
end My

/-! The pen made; amounts poured. -/
namespace My
open PySem PySem.Spec PyProof.Rows L2
open He (ga ma)
section
variable {σ : SS} {G H : Hp} {K : PySem.W.Frag} {α β γ : Type} {T : Ty α} {S : Ty β} {U : Ty γ} {D : Ends} {tu tw tz : TS} {x : α} {y : β} {P : Addr} {M : Addr → Prop}
theorem pen_run {Q : VK} {E : XK} {a : Addr} {ns : List Int} (s : Same G H) (hl : SqL K G a (ns.map V.int)) (k : ∀ P G' H', Grow NoM G H G' H' → PenH P 0 G' H' → Q (.ref P) H') : sp_l_pen K [.ref a] H Q E := by
  refine ⟨rfl, fun P hP => ?_⟩
  have g1 : Grow NoM G H G (upd H P (.dK [])) := (Grow.refl s).made hP
  have hP1 : (upd H P (.dK [])) P = some (.dK []) := upd_same
  refine ⟨.ref a, rfl, 63, rfl, a, _, rfl, sql_mono g1.s hl, fun q hq => ?_⟩
  have hqP : P ≠ q := ne_of_none hP1 hq
  generalize hcv : cutV (ns.map V.int) none (some 63) = cv
  have hcs : ∃ cs : List Int, cv = cs.map V.int ∧ cs.length ≤ 63 := by
    have e := cut_to (xs := ns) (k := 63)
    refine ⟨ns.take 63, ?_, by rw [List.length_take]; omega⟩
    have f : Fits tInt (cutV (ns.map V.int) none (some 63)) (cutT ns none (some 63)) (fun _ => none) := Fits.cut fits_ints none (some 63)
    rw [← hcv, f.ints]
    exact congrArg _ e
  obtain ⟨cs, rfl, hlen⟩ := hcs
  refine ⟨q, cs.map V.int, rfl, .inl (SqL.of upd_same), fun c hc => ?_⟩
  have g2 : Grow NoM G H G (upd (upd H P (.dK [])) q (.lst (cs.map V.int))) := g1.made hq
  have g3 : Grow NoM G H (upd G c (.lst (cs.map V.int))) (upd (upd (upd H P (.dK [])) q (.lst (cs.map V.int))) c (.lst (cs.map V.int))) := g2.alloc hc
  have hqc : P ≠ c := ne_of_none (by rw [upd_ne hqP]; exact hP1) hc
  have gP : G P = none := Same.none s hP
  have gPc : (upd G c (.lst (cs.map V.int))) P = none := by rw [upd_ne hqc]; exact gP
  refine ⟨by rw [upd_ne hqc, upd_ne hqP]; exact hP1, kvs3 c 0 0, rfl, (by show 3 ≤ 15; decide), ?_⟩
  rw [merge3]
  exact k P _ _ (g3.mut hP gPc) ⟨c, cs, 0, 0, gPc, upd_same, by rw [upd_same], Nat.le_trans hlen (by decide), Nat.le_refl _⟩
/-! ### poured -/
def pourF (L : Nat) (sp f : List Nat) (a : Nat) : List Nat := f ++ [min a (L * topS sp (f.length + 1) - f.sum)]
def pourL (L : Nat) (sp am : List Nat) : List Nat := (sdL am).foldl (pourF L sp) []
theorem pour_ok (L : Nat) (sp : List Nat) : ∀ (as f : List Nat), f.sum ≤ L * topS sp f.length → (as.foldl (pourF L sp) f).length = f.length + as.length ∧ (as.foldl (pourF L sp) f).sum ≤ L * topS sp (f.length + as.length) ∧ ∀ x ∈ as.foldl (pourF L sp) f, x ∈ f ∨ ∃ a ∈ as, x ≤ a
  | [], f, h => ⟨rfl, h, fun x hx => .inl hx⟩
  | a :: as, f, h => by
    have hm : L * topS sp f.length ≤ L * topS sp (f.length + 1) := Nat.mul_le_mul_left _ (take_sum_mono _ (Nat.le_succ _))
    have hl : (pourF L sp f a).length = f.length + 1 := by unfold pourF; rw [List.length_append]; rfl
    have hs : (pourF L sp f a).sum ≤ L * topS sp (pourF L sp f a).length := by
      rw [hl]
      unfold pourF
      rw [List.sum_append, List.sum_cons, List.sum_nil]
      omega
    obtain ⟨i1, i2, i3⟩ := pour_ok L sp as (pourF L sp f a) hs
    rw [List.foldl_cons, List.length_cons]
    refine ⟨by omega, by rw [hl] at i2; rw [show f.length + (as.length + 1) = f.length + 1 + as.length by omega]; exact i2, fun x hx => ?_⟩
    rcases i3 x hx with q | ⟨b, hb, hle⟩
    · unfold pourF at q
      rcases List.mem_append.mp q with q | q
      · exact .inl q
      · have : x = min a (L * topS sp (f.length + 1) - f.sum) := by simpa using q
        exact .inr ⟨a, List.mem_cons_self, by omega⟩
    · exact .inr ⟨b, List.mem_cons_of_mem _ hb, hle⟩
theorem pour_len (L : Nat) (sp am : List Nat) : (pourL L sp am).length = am.length := by
  have := (pour_ok L sp (sdL am) [] (Nat.zero_le _)).1
  rw [sdL_len] at this
  unfold pourL
  rw [this]
  exact Nat.zero_add _
theorem pour_le {L : Nat} {sp am : List Nat} {B : Nat} (h : ∀ x ∈ am, x ≤ B) : ∀ x ∈ pourL L sp am, x ≤ B := fun x hx => by
  rcases (pour_ok L sp (sdL am) [] (Nat.zero_le _)).2.2 x hx with q | ⟨a, ha, hle⟩
  · simp at q
  · exact Nat.le_trans hle (h a ((sdL_perm am).mem_iff.mp ha))
theorem poured_run {Q : VK} {E : XK} {L : Nat} {sp am : List Nat} {v0 v1 v2 : V} {G0 H0 : Hp} (hL : L ≤ 2 ^ 200) (hs : ∀ x ∈ sp, x ≤ 2 ^ 200) (hsl : sp.length ≤ 1000) (hal : am.length ≤ 1000) (sm : Same G0 H0) (r0 : tNat.rel L v0 G0) (r1 : (tLs tNat).rel sp v1 G0) (r2 : (tLs tNat).rel am v2 G0)
    (k : ∀ p vs G2 H2, Grow NoM G0 H0 G2 H2 → H0 p = none → G2 p = none → H2 p = some (.lst vs) → Fits tNat vs (pourL L sp am) G2 → Q (.ref p) H2) : sp_l_poured K [v0, v1, v2] H0 Q E := by
  refine ⟨rfl, q_parM (M := NoM) (T := tLs tNat) (S := tNat) (ys := []) (ev_sorted (ev_var rfl r1)) em_nil sm fun v3 l vs0 G1 H1 g1 q3 hl hg hHl ff => ?_⟩
  have r0a := tNat.mono g1.g r0
  have lsd : (sdL am).length = am.length := sdL_len _
  refine q_for (M := NoM) (T := tNat) (xs := sdL am) (ev_sorted (ev_var rfl ((tLs tNat).mono g1.g r2))) g1.s (fun i σ G' H' => ∃ u5 ws, σ = [some v0, some v1, some v2, some v3, some (.ref l), u5] ∧ Grow NoM G0 H0 G' H' ∧ Same G1 G' ∧ G' l = none ∧ H' l = some (.lst ws) ∧ Fits tNat ws (((sdL am).take i).foldl (pourF L sp) []) G')
    (fun G2 H2 g2 => ⟨none, vs0, rfl, g1.trans g2, g2.g, g2.n l hg (ne_none_of hHl), g2.hh l _ hHl, ff.mono g2.g⟩) (fun i σ G' H' ⟨_, _, _, g, _⟩ => g.s) ?_ ?_
  · rintro Gs i a u σ G2 H2 s0 hi ⟨u5, ws, rfl, g2, s12, hgl, hhl, f2⟩ ru
    have hi2 : i < am.length := by rw [← lsd]; exact (List.getElem?_eq_some_iff.mp hi).1
    obtain ⟨p1, p2, p3⟩ := pour_ok L sp ((sdL am).take i) [] (Nat.zero_le _)
    generalize hf : ((sdL am).take i).foldl (pourF L sp) [] = f at *
    have lf : f.length = i := by rw [p1, List.length_take]; show 0 + _ = _; omega
    have hsum : f.sum ≤ L * topS sp (f.length + 1) := by
      have e : ([] : List Nat).length + ((sdL am).take i).length = f.length := p1.symm
      rw [e] at p2
      exact Nat.le_trans p2 (Nat.mul_le_mul_left _ (take_sum_mono _ (Nat.le_succ _)))
    have lws : ws.length = f.length := f2.length
    have hstep : ((sdL am).take (i + 1)).foldl (pourF L sp) [] = f ++ [min a (L * topS sp (f.length + 1) - f.sum)] := by
      rw [List.take_add_one, hi]
      show ((sdL am).take i ++ [a]).foldl _ _ = _
      rw [List.foldl_append, hf]
      rfl
    have tb : topS sp (f.length + 1) < 2 ^ 1000 := Nat.lt_of_le_of_lt (top_le sp (f.length + 1) hs) (Nat.lt_of_le_of_lt (Nat.mul_le_mul_right _ hsl) (by decide))
    have q3' := (tLs tNat).mono s12 q3
    have other : EvT NoM (tOp rSubI (tOp rMulW (tVar 0) (tCB (rSum K) (tCons (tSl (rSlL K) (tVar 3) tNoPart (tPart (tOp rAddI (tCB (rLenS K) (tCons (tVar 4) tNil)) (tC (.int 1))))) tNil))) (tCB (rSum K) (tCons (tVar 4) tNil))) [some v0, some v1, some v2, some v3, some (.ref l), some u] G2 H2 tInt ((L : Int) * (topS sp (f.length + 1) : Int) - (f.sum : Int)) :=
      ev_sub (ev_mul (nat_wide (Nat.lt_of_le_of_lt hL (by decide)) tb) (ev_ni (ev_var rfl (tNat.mono s12 r0a))) (ev_ni (ev_topS (ev_var rfl q3') ((ev_add (ev_lenM (l := l) (vs := ws) (fun z => z) hhl (ev_var rfl rfl)) ev_int).is (by rw [lws]; rfl))))) (ev_ni (ev_sumM (l := l) (vs := ws) (fun z => z) hhl f2 (ev_var rfl rfl)))
    refine s_app (M := NoM) (T := tNat) (x := min a (L * topS sp (f.length + 1) - f.sum)) (l := l) hhl (by rw [lws, lf, sizeLine_eq]; omega) (ev_var rfl rfl) (ev_in ((ev_min2 (i := (a : Int)) (ev_ni (ev_var (T := tNat) (x := a) rfl ru)) other).is ?_)) g2.s fun w G3 H3 g3 r3 e3 => ?_
    · rw [← Int.natCast_mul]
      generalize L * topS sp (f.length + 1) = z at hsum ⊢
      split <;> omega
    have hg3 := g3.n l hgl (ne_none_of hhl)
    refine ⟨G3, s0.trans g3.g, some u, _, rfl, (g2.trans g3).mut hl hg3, s12.trans g3.g, hg3, upd_same, ?_⟩
    rw [hstep]
    exact (f2.mono g3.g).append (Fits.one r3)
  · rintro σ G2 H2 ⟨u5, ws, rfl, g2, s12, hgl, hhl, f2⟩
    rw [List.take_length] at f2
    exact ⟨.ref l, rfl, k l ws G2 H2 g2 hl hgl hhl f2⟩
theorem em_poured {E : XK} {ta tb tc : TE} {L : Nat} {sp am : List Nat} (hL : L ≤ 2 ^ 200) (hs : ∀ x ∈ sp, x ≤ 2 ^ 200) (hsl : sp.length ≤ 1000) (hal : am.length ≤ 1000) (ha : EvT M ta σ G H tNat L) (hb : EvT M tb σ G H (tLs tNat) sp) (hc : EvT M tc σ G H (tLs tNat) am) :
    EvM M (tCall (sp_l_poured K) [] E (tCons ta (tCons tb (tCons tc tNil)))) σ G H tNat (pourL L sp am) := fun Ga Ha ga Q k => ha Ga Ha ga _ fun v0 Gb Hb gb rb => hb Gb Hb (ga.trans gb.up) _ fun v1 Gc Hc gc rc => hc Gc Hc ((ga.trans gb.up).trans gc.up) _ fun v2 G0 H0 gd r2 =>
  poured_run (E := E) hL hs hsl hal gd.s (tNat.mono (gc.g.trans gd.g) rb) ((tLs tNat).mono gd.g rc) r2 fun p vs G2 H2 g2 hp hg e f => k p vs G2 H2 (((gb.trans gc).trans gd).trans g2) (((gb.trans gc).trans gd).new hp) hg e f
end
end My

/-! More readings for the laws. -/
namespace My
open PySem PySem.Spec PyProof.Rows L2
open He (ga ma)
section
variable {σ : SS} {G H : Hp} {K : PySem.W.Frag} {α β γ : Type} {T : Ty α} {S : Ty β} {U : Ty γ} {D : Ends} {tu tw tz : TS} {x : α} {y : β} {P : Addr} {M : Addr → Prop}
def EvA (M : Addr → Prop) (ta : TA) (σ : SS) (G H : Hp) (T : Ty α) (xs : List α) : Prop := ∀ G1 H1, Grow M G H G1 H1 → ∀ Q : List V → Hp → Prop, (∀ vs G2 H2, Grow NoM G1 H1 G2 H2 → Fits T vs xs G2 → Q vs H2) → ta σ H1 Q
theorem ea_nil : EvA M tNil σ G H T [] := fun G1 H1 g Q k => k [] G1 H1 (Grow.refl g.s) True.intro
theorem ea_cons {te : TE} {ta : TA} {xs : List α} (h : EvT M te σ G H T x) (hr : EvA M ta σ G H T xs) : EvA M (tCons te ta) σ G H T (x :: xs) := fun G1 H1 g Q k => h G1 H1 g _ fun v G2 H2 g2 r2 => hr G2 H2 (g.trans g2.up) _ fun vs G3 H3 g3 f => k (v :: vs) G3 H3 (g2.trans g3) ⟨T.mono g3.g r2, f⟩
theorem em_lstA {ta : TA} {xs : List α} (hl : xs.length ≤ 1000) (h : EvA M ta σ G H T xs) : EvM M (tLst ta) σ G H T xs := fun G1 H1 g Q k => h G1 H1 g _ fun vs G2 H2 g2 f => ⟨by rw [f.length, sizeLine_eq]; omega, fun p hp => k p vs G2 _ (g2.made hp) (g2.new hp) (Same.none g2.s hp) upd_same f⟩
theorem ev_lstA {ta : TA} {xs : List α} (hl : xs.length ≤ 1000) (h : EvA M ta σ G H T xs) : EvT M (tLst ta) σ G H (tLs T) xs := ev_newL (em_lstA hl h)
theorem ev_nat {n : Nat} : EvT M (tC (.int (n : Int))) σ G H tNat n := ev_c rfl
theorem ev_some' {te : TE} (h : EvT M te σ G H (tOpt T) (some x)) : EvT M te σ G H T x := fun G1 H1 g Q k => h G1 H1 g Q fun v G2 H2 g2 r2 => k v G2 H2 g2 r2.2
theorem ev_lenI {ta : TE} {a : Addr} {ns : List Int} (hs : SqL K G a (ns.map V.int)) (h : EvT M ta σ G H tVal (.ref a)) : EvT M (tCB (rLenS K) (tCons ta tNil)) σ G H tInt (ns.length : Int) := fun G1 H1 g Q k => h G1 H1 g _ fun v G2 H2 g2 r2 => by
  cases r2
  refine ⟨a, _, rfl, .inl (sql_mono ((g.g.trans g2.g).trans g2.s) hs), ?_⟩
  rw [List.length_map]
  exact k _ G2 H2 g2 rfl
theorem pm_pure {te : TE} {xs : List α} (h : EvM (· = P) te σ G H T xs) : EvPM P 0 te σ G H T (· = xs) := fun G1 H1 m g pen hm Q k => h G1 H1 g Q fun p vs G2 H2 g2 hp hg e f => k xs p vs G2 H2 g2.up (pen.grow g2) rfl hp hg e f
theorem p_addI {ta tb : TE} {c d : Nat} {φ ψ : Int → Prop} (ha : EvP P c ta σ G H tInt φ) (hb : EvP P d tb σ G H tInt ψ) : EvP P (c + d) (tOp rAddI ta tb) σ G H tInt (fun n => ∃ i j, φ i ∧ ψ j ∧ n = i + j) :=
  fun G1 H1 m g pen hm Q k => ha G1 H1 m g pen (by omega) _ fun i v G2 H2 g2 p2 f r2 => hb G2 H2 (m + c) (g.trans g2) p2 (by omega) _ fun j w G3 H3 g3 p3 f3 r3 => by
    cases r2
    cases r3
    exact ⟨i, j, rfl, rfl, k (i + j) _ G3 H3 (g2.trans g3) (by rw [← Nat.add_assoc]; exact p3) ⟨i, j, f, f3, rfl⟩ rfl⟩
theorem p_max0 {tb : TE} {d : Nat} {ψ : Int → Prop} (hb : EvP P d tb σ G H tInt ψ) : EvP P d (tCB rMax2 (tCons (tC (.int 0)) (tCons tb tNil))) σ G H tNat (fun n => ∃ j, ψ j ∧ n = j.toNat) :=
  fun G1 H1 m g pen hm Q k => hb G1 H1 m g pen hm _ fun j w G3 H3 g3 p3 f3 r3 => by
    cases r3
    refine ⟨0, j, rfl, k j.toNat _ G3 H3 g3 p3 ⟨j, f3, rfl⟩ ?_⟩
    show V.int _ = V.int _
    congr 1
    split <;> omega
theorem ev_ixMP {ta tb : TE} {l : Addr} {vs : List V} {xs : List α} {i : Int} {j : Nat} (hm : ¬ M l) (hl : H l = some (.lst vs)) (f : Fits T vs xs G) (hi : i = (j : Int)) (hx : xs[j]? = some x) (ha : EvT M ta σ G H tVal (.ref l)) (hb : EvT M tb σ G H tInt i) :
    EvT M (tOp (rIxL K) ta tb) σ G H T x := ev_ixM hm hl f hi hx ha hb
/-- l[i] = e, e drawn -/
theorem p_setL {te tl ti : TE} {l : Addr} {xs : List V} {j c m : Nat} {φ : α → Prop} (hlP : l ≠ P) (hl : H l = some (.lst xs)) (hj : j < xs.length) (he : EvP P c te σ G H T φ) (hol : σ[0]? = σ[0]?) (ho : EvT (· = P) tl σ G H tVal (.ref l)) (hi : EvT (· = P) ti σ G H tInt (j : Int)) (s : Same G H) (pen : PenH P m G H) (hm : m + c ≤ 2 ^ 60)
    (k : ∀ x v G1 H1, Grow (· = P) G H G1 H1 → PenH P (m + c) G1 H1 → φ x → T.rel x v G1 → H1 l = some (.lst xs) → D.nx σ (upd H1 l (.lst (xs.set j v)))) : tAsg te (gSub tl ti rSetL) D σ H :=
  he G H m (Grow.refl s) pen hm _ fun x v G1 H1 g1 p1 f1 r1 => ho G1 H1 g1 _ fun w G2 H2 g2 r2 => by
    cases r2
    refine hi G2 H2 (g1.trans g2.up) _ fun u G3 H3 g3 r3 => ?_
    have e := g3.hh l _ (g2.hh l _ (g1.h l _ hlP hl))
    refine ⟨l, xs, (j : Int), j, rfl, r3, e, ?_, k x v G3 H3 ((g1.trans g2.up).trans g3.up) ((p1.grow g2).grow g3) f1 (T.mono (g2.g.trans g3.g) r1) e⟩
    unfold ixN
    simp
    omega
/-- if, with what both ways reach -/
theorem p_ifJ {t : TT} {c m : Nat} {φ : Bool → Prop} (J : SS → Hp → Prop) (h : EvPB P c t σ G H φ) (s : Same G H) (pen : PenH P m G H) (hm : m + c ≤ 2 ^ 60) (h1 : φ true → ∀ G1 H1, Grow (· = P) G H G1 H1 → PenH P (m + c) G1 H1 → (∀ σ' H', J σ' H' → tz D σ' H') → tu { D with nx := tz D } σ H1)
    (h2 : φ false → ∀ G1 H1, Grow (· = P) G H G1 H1 → PenH P (m + c) G1 H1 → J σ H1) (hj : ∀ σ' H', J σ' H' → tz D σ' H') : tSeq (tIfS t tu tNext) tz D σ H :=
  h G H m (Grow.refl s) pen hm _ fun b G1 H1 g p f => by
    cases b with
    | true => exact h1 f G1 H1 g p hj
    | false => exact hj σ H1 (h2 f G1 H1 g p)
def datRow : Dat K (tRow K) where
  d := fun r => .tuple [.int (r.w : Int), .int (r.b : Int), frD r.st, frD r.en]
  dep := 2
  dp := fun {r v G} h => by
    obtain ⟨p, v3, v4, rfl, hp, h3, h4⟩ := h
    exact .tup hp (.cons (.int _) (.cons (.int _) (.cons ((datFr (K := K)).dp h3) (.cons ((datFr (K := K)).dp h4) .nil))))
  lay := fun _ => rfl
  depth := fun r => by show max 0 (max 0 (max (max 0 (max 0 0) + 1) (max (max 0 (max 0 0) + 1) 0))) + 1 ≤ 2; decide
  eq := fun p q => by
    have e1 : PyData.eqv (frD p.st) (frD q.st) = decide (p.st = q.st) := (datFr (K := K)).eq p.st q.st
    have e2 : PyData.eqv (frD p.en) (frD q.en) = decide (p.en = q.en) := (datFr (K := K)).eq p.en q.en
    show (((p.w : Int) == (q.w : Int)) && (((p.b : Int) == (q.b : Int)) && (PyData.eqv (frD p.st) (frD q.st) && (PyData.eqv (frD p.en) (frD q.en) && true)))) = _
    rw [e1, e2, Bool.and_true, Bool.beq_eq_decide_eq, Bool.beq_eq_decide_eq, Bool.eq_iff_iff]
    simp only [Bool.and_eq_true, decide_eq_true_eq, Int.ofNat_inj]
    obtain ⟨a, b, c, d⟩ := p
    obtain ⟨a', b', c', d'⟩ := q
    simp
theorem plan_a : (Wd.mk 1 [] []).plan = some [] := by decide +kernel
theorem plan_b : (Wd.mk 1 [] [0, 0]).plan = some [] := by decide +kernel
theorem plan_c : (Wd.mk 1 [] [0, 1]).plan = none := by decide +kernel
theorem plan_d : (Wd.mk 2 [3] [6]).plan = some [⟨0, 0, 0, 2⟩] := by decide +kernel
end
end My

/-! Great numbers, the greatest of a list, lists put together, two stretches shuffled. -/
namespace My
open PySem PySem.Spec PyProof.Rows L2
open He (ga ma)
section
variable {σ : SS} {G H : Hp} {K : PySem.W.Frag} {α β γ : Type} {T : Ty α} {S : Ty β} {U : Ty γ} {D : Ends} {tu tw tz : TS} {x : α} {y : β} {P : Addr} {M : Addr → Prop}
theorem great_run {m f : Nat} {Q : VK} {E : XK} (pen : PenH P m G H) (s : Same G H) (hf : f ≤ 18) (hm : m + 18 ≤ 2 ^ 60) (k : ∀ (x : Nat) G' H', Grow (· = P) G H G' H' → PenH P (m + 18) G' H' → x < 10 ^ f → Q (.int (x : Int)) H') : sp_l_great K [.ref P, .int (f : Int)] H Q E := by
  refine ⟨rfl, q_asg (M := NoM) (T := tNat) (x := 0) (ev_nat (n := 0)) s fun v2 G1 H1 g1 q2 => ?_⟩
  refine q_rng (M := NoM) (n := f) (ev_var rfl rfl) (by omega) g1.s (fun i σ G' H' => ∃ (x : Nat) (u3 : Option V), σ = [some (.ref P), some (.int (f : Int)), some (.int (x : Int)), u3] ∧ Grow (· = P) G H G' H' ∧ PenH P (m + i) G' H' ∧ x < 10 ^ i) (fun G2 H2 g2 => ⟨0, none, by rw [show v2 = V.int ((0 : Nat) : Int) from q2]; rfl, (g1.trans g2).up, (pen.grow g1).grow g2, by decide⟩) ?_ ?_
  · rintro G0 i σ G2 H2 s0 hi ⟨x, u3, rfl, g2, p2, hx⟩
    have hx18 : x < 10 ^ 18 := Nat.lt_of_lt_of_le hx (Nat.pow_le_pow_right (by decide) (by omega))
    refine p_asgS (P := P) (p_add (p_pure (ev_in (n := 10 * x) ((ev_mul (nat_wide (a := 10) (b := x) (by decide) (Nat.lt_trans hx18 (by decide))) (ev_int (i := 10)) (ev_var (T := tInt) (x := (x : Int)) rfl rfl)).is (Int.natCast_mul 10 x).symm))) (p_draw (K := K) (n := 10) rfl (by decide) (by decide) ev_int)) g2.s p2 (by omega) fun z v G3 H3 g3 p3 fz rz => ?_
    obtain ⟨a, b, h1, h2, h3⟩ := fz
    have h1 : a = 10 * x := h1
    refine ⟨G3, s0.trans g3.g, z, some _, by rw [show v = V.int (z : Int) from rz]; rfl, g2.trans g3, p3.mono (by omega), ?_⟩
    rw [Nat.pow_succ]
    omega
  · rintro σ G2 H2 ⟨x, u3, rfl, g2, p2, hx⟩
    exact ⟨_, rfl, k x G2 H2 g2 (p2.mono (by omega)) hx⟩
theorem p_great {te : TE} {i c : Nat} {φ : Nat → Prop} (hi : σ[i]? = some (some (.ref P))) (hf : ∀ f, φ f → f ≤ 18) (h : EvP P c te σ G H tNat φ) : EvP P (c + 18) (tCall (sp_l_great K) [] E0 (tCons (tVar i) (tCons te tNil))) σ G H tNat (fun x => ∃ f, φ f ∧ x < 10 ^ f) :=
  fun G1 H1 m g pen hm Q k => ⟨_, hi, h G1 H1 m g pen (by omega) _ fun f v G2 H2 g2 p2 ff r2 => by
    cases r2
    exact great_run (E := E0) p2 g2.s (hf f ff) (by omega) fun x G' H' g' p' lt => k x _ G' H' (g2.trans g') (by rw [← Nat.add_assoc]; exact p') ⟨f, ff, lt⟩ rfl⟩
theorem p_max {ta : TE} {ns : List Nat} (hn : 0 < ns.length) (ha : EvT (· = P) ta σ G H (tLs tNat) ns) : EvP P 0 (tCB (rMax K) (tCons ta tNil)) σ G H tNat (fun m => m ∈ ns ∧ ∀ y ∈ ns, y ≤ m) :=
  fun G1 H1 m g pen hm Q k => ha G1 H1 g _ fun v G2 H2 g2 r2 => by
    obtain ⟨p, vs, rfl, hp, f⟩ := r2
    have e := fits_nat f
    subst e
    refine ⟨p, _, rfl, SqL.of (g2.s p _ hp), by rw [List.length_map]; exact hn, fun z hz hle => ?_⟩
    obtain ⟨n, hn1, rfl⟩ := List.mem_map.mp hz
    refine k n _ G2 H2 g2.up (pen.grow g2) ⟨hn1, fun y hy => ?_⟩ rfl
    exact Int.ofNat_le.mp (hle (y : Int) (List.mem_map.mpr ⟨y, hy, rfl⟩))
theorem p_cat {ta tb : TE} {c : Nat} {xs : List α} {φ : List α → Prop} (hB : ∀ ys, φ ys → xs.length + ys.length ≤ sizeLine) (ha : EvT (· = P) ta σ G H (tLs T) xs) (hb : EvP P c tb σ G H (tLs T) φ) : EvPM P c (tOp rCat ta tb) σ G H T (fun zs => ∃ ys, φ ys ∧ zs = xs ++ ys) :=
  fun G1 H1 m g pen hm Q k => ha G1 H1 g _ fun v G2 H2 g2 r2 => hb G2 H2 m (g.trans g2.up) (pen.grow g2) hm _ fun ys w G3 H3 g3 p3 f r3 =>
    (em_cat (M := NoM) (σ := σ) (G := G3) (H := H3) (hB ys f) (ev_c (v := v) ((tLs T).mono g3.g r2)) (ev_c (v := w) r3)) G3 H3 (Grow.refl g3.s) Q fun p vs G4 H4 g4 hp hg e ff => k (xs ++ ys) p vs G4 H4 ((g2.up.trans g3).trans g4.up) (p3.grow g4) ⟨ys, f, rfl⟩ ((g2.up.trans g3).new hp) hg e ff
theorem p_pour {ta tb tc : TE} {c L : Nat} {sp : List Nat} {φ : List Nat → Prop} (hL : L ≤ 2 ^ 200) (hs : ∀ x ∈ sp, x ≤ 2 ^ 200) (hsl : sp.length ≤ 1000) (hal : ∀ am, φ am → am.length ≤ 1000) (ha : EvT (· = P) ta σ G H tNat L) (hb : EvT (· = P) tb σ G H (tLs tNat) sp) (hc : EvP P c tc σ G H (tLs tNat) φ) :
    EvPM P c (tCall (sp_l_poured K) [] E0 (tCons ta (tCons tb (tCons tc tNil)))) σ G H tNat (fun ys => ∃ am, φ am ∧ ys = pourL L sp am) :=
  fun G1 H1 m g pen hm Q k => ha G1 H1 g _ fun v0 G2 H2 g2 r0 => hb G2 H2 (g.trans g2.up) _ fun v1 G3 H3 g3 r1 => hc G3 H3 m ((g.trans g2.up).trans g3.up) ((pen.grow g2).grow g3) hm _ fun am v2 G4 H4 g4 p4 f r2 =>
    poured_run (E := E0) hL hs hsl (hal am f) g4.s (tNat.mono (g3.g.trans g4.g) r0) ((tLs tNat).mono g4.g r1) r2 fun p vs G5 H5 g5 hp hg e ff => k _ p vs G5 H5 (((g2.up.trans g3.up).trans g4).trans g5.up) (p4.grow g5) ⟨am, f, rfl⟩ (((g2.up.trans g3.up).trans g4).new hp) hg e ff
/-- not stretch_right(length, .., ..) -/
theorem p_right (N : SegK K) {ta tb tc : TE} {c d L : Nat} {φ ψ : List Nat → Prop} (hw : ∀ sp am, φ sp → ψ am → (Wd.mk L sp am).Ok) (ha : EvT (· = P) ta σ G H tNat L) (hb : EvP P c tb σ G H (tLs tNat) φ) (hc : EvP P d tc σ G H (tLs tNat) ψ) :
    EvPB P (c + d) (tNot (tB (tCall (sp_l_stretch_right K) [] E0 (tCons ta (tCons tb (tCons tc tNil)))))) σ G H (· = false) :=
  fun G1 H1 m g pen hm Q k => ha G1 H1 g _ fun v0 G2 H2 g2 r0 => hb G2 H2 m (g.trans g2.up) (pen.grow g2) (by omega) _ fun sp v1 G3 H3 g3 p3 f3 r1 => hc G3 H3 (m + c) ((g.trans g2.up).trans g3) p3 (by omega) _ fun am v2 G4 H4 g4 p4 f4 r2 =>
    lspec_right N (hw sp am f3 f4) G4 H4 v0 v1 v2 _ E0 g4.s (tNat.mono (g3.g.trans g4.g) r0) ((tLs tNat).mono g4.g r1) r2 fun u G5 H5 g5 r5 => by
      cases r5
      refine ⟨true, rfl, ?_⟩
      exact k false G5 H5 (((g2.up.trans g3).trans g4).trans g5.up) (by rw [← Nat.add_assoc]; exact p4.grow g5) rfl
theorem p_when {t : TT} {c m : Nat} (h : EvPB P c t σ G H (· = false)) (s : Same G H) (pen : PenH P m G H) (hm : m + c ≤ 2 ^ 60) (k : ∀ G1 H1, Grow (· = P) G H G1 H1 → PenH P (m + c) G1 H1 → D.nx σ H1) : tIfS t tu tNext D σ H :=
  h G H m (Grow.refl s) pen hm _ fun b G1 H1 g p f => by
    cases f
    exact k G1 H1 g p
end
end My

/-! What can be done stays so: other orders, other units, fewer works; and not with too great a work. -/
namespace My
theorem sdL_of_perm {a b : List Nat} (h : a.Perm b) : sdL a = sdL b := sdL_eq ((sdL_perm a).trans h) (sdL_sorted a)
theorem topS_perm {a b : List Nat} (h : a.Perm b) (k : Nat) : topS a k = topS b k := by
  unfold topS
  rw [sdL_of_perm h]
theorem topS_all (ns : List Nat) {k : Nat} (h : ns.length ≤ k) : topS ns k = ns.sum := by
  unfold topS
  rw [List.take_of_length_le (by rw [sdL_len]; exact h), (sdL_perm ns).sum_nat]
theorem topS_mono (ns : List Nat) {j k : Nat} (h : j ≤ k) : topS ns j ≤ topS ns k := take_sum_mono _ h
theorem topS_le_sum (ns : List Nat) (k : Nat) : topS ns k ≤ ns.sum := by
  by_cases h : ns.length ≤ k
  · rw [topS_all ns h]; exact Nat.le_refl _
  · rw [← topS_all ns (Nat.le_refl _)]
    exact topS_mono ns (by omega)
theorem canB_all (L : Nat) (sp am : List Nat) : canB L sp am = true ↔ ∀ k, topS am k ≤ L * topS sp k := by
  rw [canB_iff]
  constructor
  · intro h k
    cases k with
    | zero => exact Nat.zero_le _
    | succ k =>
      by_cases c : k < am.length
      · exact h k c
      · rw [topS_all am (by omega)]
        cases hn : am.length with
        | zero =>
          have : am = [] := List.length_eq_zero_iff.mp hn
          subst this
          exact Nat.zero_le _
        | succ n =>
          have := h n (by omega)
          rw [topS_all am (by omega)] at this
          exact Nat.le_trans this (Nat.mul_le_mul_left _ (topS_mono sp (by omega)))
  · intro h k _
    exact h (k + 1)
theorem topS_zero (ns : List Nat) (k : Nat) : topS (ns ++ [0]) k = topS ns k := by
  have e : sdL (ns ++ [0]) = sdL ns ++ List.replicate 1 0 := by
    refine (sdL_eq ((sdL_perm ns).append_right _) ?_).symm
    refine List.pairwise_append.mpr ⟨sdL_sorted ns, List.pairwise_singleton _ _, fun a _ b hb => ?_⟩
    have : b = 0 := by simpa using hb
    rw [this]
    exact Nat.zero_le _
  unfold topS
  rw [e, take_rep]
theorem sum_scale (r : Nat) (l : List Nat) : (l.map fun x => x * r).sum = l.sum * r := by
  induction l with
  | nil => exact (Nat.zero_mul r).symm
  | cons x l ih => rw [List.map_cons, List.sum_cons, List.sum_cons, ih, Nat.add_mul]
theorem topS_scale (ns : List Nat) (r k : Nat) : topS (ns.map fun x => x * r) k = topS ns k * r := by
  have e : sdL (ns.map fun x => x * r) = (sdL ns).map fun x => x * r := by
    refine (sdL_eq ((sdL_perm ns).map _) ?_).symm
    rw [List.pairwise_map]
    exact (sdL_sorted ns).imp fun h => Nat.mul_le_mul_right r h
  unfold topS
  rw [e, ← List.map_take, sum_scale]
theorem split_at (a : Nat) : ∀ {l : List Nat}, (l.Pairwise fun a b => b ≤ a) → ∃ u v, l = u ++ v ∧ (∀ x ∈ u, a ≤ x) ∧ ∀ x ∈ v, x ≤ a
  | [], _ => ⟨[], [], rfl, by simp, by simp⟩
  | x :: l, h => by
    obtain ⟨h1, h2⟩ := List.pairwise_cons.mp h
    by_cases c : a ≤ x
    · obtain ⟨u, v, e, hu, hv⟩ := split_at a h2
      exact ⟨x :: u, v, by rw [e]; rfl, fun y hy => by
        rcases List.mem_cons.mp hy with rfl | hy
        · exact c
        · exact hu y hy, hv⟩
    · refine ⟨[], x :: l, rfl, by simp, fun y hy => ?_⟩
      rcases List.mem_cons.mp hy with rfl | hy
      · omega
      · have := h1 y hy
        omega
theorem take_one (l : List Nat) (a : Nat) (h : ∀ x ∈ l, x ≤ a) (j : Nat) : (l.take (j + 1)).sum ≤ a + (l.take j).sum := by
  rw [List.take_add_one, List.sum_append]
  cases e : l[j]? with
  | none => simp
  | some x =>
    have := h x (List.mem_of_getElem? e)
    simp
    omega
theorem topS_cons (a : Nat) (ns : List Nat) (k : Nat) : topS ns k ≤ topS (a :: ns) k := by
  obtain ⟨u, v, e, hu, hv⟩ := split_at a (sdL_sorted ns)
  have hs := sdL_sorted ns
  rw [e] at hs
  obtain ⟨s1, s2, s3⟩ := List.pairwise_append.mp hs
  have e2 : sdL (a :: ns) = u ++ a :: v := by
    refine (sdL_eq ?_ ?_).symm
    · have p : (u ++ v).Perm ns := by rw [← e]; exact sdL_perm ns
      exact List.perm_middle.trans (p.cons a)
    · refine List.pairwise_append.mpr ⟨s1, List.pairwise_cons.mpr ⟨hv, s2⟩, fun x hx y hy => ?_⟩
      rcases List.mem_cons.mp hy with rfl | hy
      · exact hu x hx
      · exact s3 x hx y hy
  unfold topS
  rw [e, e2, List.take_append, List.take_append, List.sum_append, List.sum_append]
  refine Nat.add_le_add_left ?_ _
  cases hk : k - u.length with
  | zero => exact Nat.zero_le _
  | succ j =>
    rw [List.take_succ_cons, List.sum_cons]
    exact take_one v a hv j
theorem can_same {L : Nat} {sp sp' am am' : List Nat} (h1 : sp'.Perm sp) (h2 : am'.Perm (am ++ [0])) : canB L sp' am' = canB L sp am := by
  rw [Bool.eq_iff_iff, canB_all, canB_all]
  refine forall_congr' fun k => ?_
  rw [topS_perm h1, topS_perm h2, topS_zero]
theorem can_larger {L r : Nat} (hr : 0 < r) (sp am : List Nat) : canB L (sp.map fun x => x * r) (am.map fun x => x * r) = canB L sp am := by
  rw [Bool.eq_iff_iff, canB_all, canB_all]
  refine forall_congr' fun k => ?_
  rw [topS_scale, topS_scale, ← Nat.mul_assoc]
  exact Nat.mul_le_mul_right_iff hr
theorem can_longer {L r : Nat} (hr : 0 < r) (sp am : List Nat) : canB (L * r) sp (am.map fun x => x * r) = canB L sp am := by
  rw [Bool.eq_iff_iff, canB_all, canB_all]
  refine forall_congr' fun k => ?_
  rw [topS_scale, Nat.mul_right_comm]
  exact Nat.mul_le_mul_right_iff hr
theorem can_fewer {L : Nat} {sp am : List Nat} (h : canB L sp am = true) : canB L sp (am.drop 1) = true := by
  rw [canB_all] at h ⊢
  intro k
  cases am with
  | nil => exact h k
  | cons a r => exact Nat.le_trans (topS_cons a r k) (h k)
theorem can_not (L : Nat) (sp am : List Nat) : canB L sp (am ++ [L * sp.sum + 1]) = false := by
  refine Bool.eq_false_iff.mpr fun h => ?_
  rw [canB_all] at h
  have := h (am ++ [L * sp.sum + 1]).length
  rw [topS_all _ (Nat.le_refl _), List.sum_append] at this
  have h2 := Nat.mul_le_mul_left L (topS_le_sum sp (am ++ [L * sp.sum + 1]).length)
  have h3 : [L * sp.sum + 1].sum = L * sp.sum + 1 := by simp
  omega
theorem plan_some {W : Wd} (w : W.Ok) : W.plan.isSome = canB W.L W.sp W.am := by
  have h := plan_law w
  cases e : W.plan with
  | none => rw [e] at h; rw [h]; rfl
  | some res => rw [e] at h; rw [h.1]; rfl
def maxN (ns : List Nat) : Nat := ns.foldr max 0
theorem le_maxN {ns : List Nat} {x : Nat} (h : x ∈ ns) : x ≤ maxN ns := by
  induction ns with
  | nil => simp at h
  | cons y r ih =>
    show x ≤ max y (maxN r)
    rcases List.mem_cons.mp h with rfl | h
    · omega
    · have := ih h
      omega
theorem maxN_le {ns : List Nat} {b : Nat} (h : ∀ x ∈ ns, x ≤ b) : maxN ns ≤ b := by
  induction ns with
  | nil => exact Nat.zero_le _
  | cons y r ih =>
    show max y (maxN r) ≤ b
    have := h y List.mem_cons_self
    have := ih fun x hx => h x (List.mem_cons_of_mem _ hx)
    omega
end My

/-! A stretch drawn; plans of drawn lists. -/
namespace My
open PySem PySem.Spec PyProof.Rows L2
open He (ga ma)
section
variable {σ : SS} {G H : Hp} {K : PySem.W.Frag} {α β γ : Type} {T : Ty α} {S : Ty β} {U : Ty γ} {D : Ends} {tu tw tz : TS} {x : α} {y : β} {P : Addr} {M : Addr → Prop}
theorem ev_addN {ta tb : TE} {i j : Nat} (ha : EvT M ta σ G H tNat i) (hb : EvT M tb σ G H tNat j) : EvT M (tOp rAddI ta tb) σ G H tNat (i + j) := ev_in ((ev_add (ev_ni ha) (ev_ni hb)).is (Int.natCast_add i j).symm)
theorem ev_mulN {ta tb : TE} {i j : Nat} (hc : CMulW (i : Int) (j : Int)) (ha : EvT M ta σ G H tNat i) (hb : EvT M tb σ G H tNat j) : EvT M (tOp rMulW ta tb) σ G H tNat (i * j) := ev_in ((ev_mul hc (ev_ni ha) (ev_ni hb)).is (Int.natCast_mul i j).symm)
theorem ev_divN {ta tb : TE} {i j : Nat} (hc : CDivW (i : Int) (j : Int)) (ha : EvT M ta σ G H tNat i) (hb : EvT M tb σ G H tNat j) : EvT M (tOp rDivW ta tb) σ G H tNat (i / j) := ev_in ((ev_div hc (ev_ni ha) (ev_ni hb)).is (Int.natCast_ediv i j).symm)
theorem ev_maxL {ta : TE} {ns : List Nat} (hn : 0 < ns.length) (ha : EvT M ta σ G H (tLs tNat) ns) : EvT M (tCB (rMax K) (tCons ta tNil)) σ G H tNat (maxN ns) :=
  fun G1 H1 g Q k => ha G1 H1 g _ fun v G2 H2 g2 r2 => by
    obtain ⟨p, vs, rfl, hp, f⟩ := r2
    have e := fits_nat f
    subst e
    refine ⟨p, _, rfl, SqL.of (g2.s p _ hp), by rw [List.length_map]; exact hn, fun z hz hle => ?_⟩
    obtain ⟨n, hn1, rfl⟩ := List.mem_map.mp hz
    have e2 : n = maxN ns := Nat.le_antisymm (le_maxN hn1) (maxN_le fun y hy => Int.ofNat_le.mp (hle (y : Int) (List.mem_map.mpr ⟨y, hy, rfl⟩)))
    rw [e2]
    exact k _ G2 H2 g2 rfl
theorem fits_flat {vs : List V} {xs : List α} {G : Hp} (h : Fits T vs xs G) : ∀ n, Fits T (List.replicate n vs).flatten (List.replicate n xs).flatten G
  | 0 => True.intro
  | n + 1 => by
    rw [List.replicate_succ, List.replicate_succ, List.flatten_cons, List.flatten_cons]
    exact h.append (fits_flat h n)
/-- xs * n -/
theorem em_repL {te tn : TE} {n : Nat} {xs : List α} (hz : xs.length * n ≤ sizeLine) (hn : n ≤ 100000) (ha : EvM M te σ G H T xs) (hb : EvT M tn σ G H tInt (n : Int)) : EvM M (tOp rRep te tn) σ G H T (List.replicate n xs).flatten := fun G1 H1 g Q k => ha G1 H1 g _ fun p vs G2 H2 g2 hp hg e f => hb G2 H2 (g.trans g2.up) _ fun w G3 H3 g3 r3 => by
  cases r3
  refine ⟨p, (n : Int), vs, rfl, rfl, g3.hh p _ e, by omega, by omega, by rw [Int.toNat_natCast, f.length]; exact hz, fun q hq => ?_⟩
  rw [Int.toNat_natCast]
  exact k q _ G3 _ ((g2.trans g3).made hq) ((g2.trans g3).new hq) (Same.none g3.s hq) upd_same (fits_flat (f.mono g3.g) n)
theorem drawn_run {m few : Nat} {Q : VK} {E : XK} (pen : PenH P m G H) (s : Same G H) (hf0 : 0 < few) (hf : few ≤ 39) (hm : m + 100 ≤ 2 ^ 60)
    (k : ∀ (L : Nat) (sp am : List Nat) p v3 v5 v7 G' H', Grow (· = P) G H G' H' → PenH P (m + 100) G' H' → 0 < L → L ≤ 9 → sp.length ≤ 8 → (∀ x ∈ sp, x ≤ 12) → am.length ≤ 39 → (∀ x ∈ am, x ≤ 1000) → tNat.rel L v3 G' → (tLs tNat).rel sp v5 G' → (tLs tNat).rel am v7 G' → G' p = some (.tup [v3, v5, v7]) → Q (.ref p) H') :
    sp_l_drawn K [.ref P, .int 8, .int (few : Int)] H Q E := by
  refine ⟨rfl, p_tup2 (P := P) (K := K) (p_add (p_pure (ev_nat (n := 1))) (p_draw (K := K) (n := 9) rfl (by decide) (by decide) ev_int)) (p_add (p_pure (ev_nat (n := 1))) (p_draw (K := K) (n := 12) rfl (by decide) (by decide) ev_int)) s pen (by omega) fun L tp v3 v4 G3 H3 g3 pen3 fL fT r3 r4 => ?_⟩
  have hL : 0 < L ∧ L ≤ 9 := by
    obtain ⟨i, j, h1, h2, h3⟩ := fL
    have h1 : i = 1 := h1
    have h2 : j < 9 := h2
    omega
  have hT : 0 < tp ∧ tp ≤ 12 := by
    obtain ⟨i, j, h1, h2, h3⟩ := fT
    have h1 : i = 1 := h1
    have h2 : j < 12 := h2
    omega
  refine p_asg (P := P) (p_froz (p_lcM (S := tNat) (c2 := 1) (B := 8) (φ := fun n => 0 < n ∧ n ≤ 8) (ψ := fun x => 0 < x ∧ x ≤ 12) (p_weak (Nat.le_of_eq rfl) (fun x hx => ?_) (p_add (p_pure (ev_nat (n := 1))) (p_draw (K := K) (n := 8) rfl (by decide) (by decide) (ev_var rfl rfl)))) (fun n hn => hn.2) (by decide) (fun x => rfl)
    fun j G6 H6 g6 => p_weak (c := 0 + 1) (by decide) (fun x hx => ?_) (p_add (p_pure (ev_nat (n := 1))) (p_draw (K := K) (n := tp) rfl hT.1 (Nat.lt_of_le_of_lt hT.2 (by decide)) (ev_ni (ev_var rfl (tNat.mono g6.g r4))))))) g3.s pen3 (by omega) fun sp v5 G4 H4 g4 pen4 fS r5 => ?_
  · obtain ⟨p, q, h1, h2, h3⟩ := hx
    have h1 : p = 1 := h1
    omega
  · obtain ⟨p, q, h1, h2, h3⟩ := hx
    have h1 : p = 1 := h1
    omega
  obtain ⟨⟨hs0, hs8⟩, hsb⟩ := fS
  have r3a := tNat.mono g4.g r3
  have hsum : sp.sum ≤ 96 := by
    have e := topS_all sp (Nat.le_refl _)
    have := top_le (B := 12) sp sp.length fun x hx => (hsb x hx).2
    rw [e] at this
    exact Nat.le_trans this (Nat.mul_le_mul_right 12 hs8)
  have hmax : maxN sp ≤ 12 := maxN_le fun x hx => (hsb x hx).2
  have b1 : L * maxN sp ≤ 108 := Nat.mul_le_mul hL.2 hmax
  have b2 : L * sp.sum ≤ 864 := Nat.mul_le_mul hL.2 hsum
  have w1 : CMulW (L : Int) (maxN sp : Int) := nat_wide (Nat.lt_of_le_of_lt hL.2 (by decide)) (Nat.lt_of_le_of_lt hmax (by decide))
  have w2 : CMulW (L : Int) (sp.sum : Int) := nat_wide (Nat.lt_of_le_of_lt hL.2 (by decide)) (Nat.lt_of_le_of_lt hsum (by decide))
  have e1 : EvT (· = P) (tOp rMulW (tVar 3) (tCB (rMax K) (tCons (tVar 5) tNil))) [some (.ref P), some (.int 8), some (.int (few : Int)), some v3, some v4, some v5, none, none, none] G4 H4 tNat (L * maxN sp) := ev_mulN w1 (ev_var rfl r3a) (ev_maxL hs0 (ev_var rfl r5))
  refine p_asg (P := P) (p_pick (K := K) (T := tNat) (xs := [L * maxN sp, L * maxN sp, 1 + L * sp.sum / few, 3]) rfl (by show 0 < 4; decide) (by show 4 < 2 ^ 200; decide) (ev_lstA (by show 4 ≤ 1000; decide) (ea_cons e1 (ea_cons e1 (ea_cons (ev_addN (ev_nat (n := 1)) (ev_divN (cdiv_nat hf0 (Nat.lt_of_le_of_lt hf (by decide))) (ev_mulN w2 (ev_var rfl r3a) (ev_sum (ev_var rfl r5))) (ev_var rfl rfl))) (ea_cons (ev_nat (n := 3)) ea_nil)))))) g4.s pen4 (by omega) fun mo v6 G5 H5 g5 pen5 fM r6 => ?_
  have hM : mo ≤ 900 := by
    have h5 : L * sp.sum / few ≤ L * sp.sum := Nat.div_le_self _ _
    simp only [List.mem_cons, List.not_mem_nil, or_false] at fM
    omega
  have r3b := tNat.mono g5.g r3a
  have r5b := (tLs tNat).mono g5.g r5
  refine p_asg (P := P) (p_froz (p_lcM (S := tNat) (c2 := 1) (B := 39) (φ := fun n => n < few + 1) (ψ := fun x => x ≤ 1000) (p_draw (K := K) (n := few + 1) rfl (by omega) (Nat.lt_of_le_of_lt (show few + 1 ≤ 40 by omega) (by decide)) (ev_ni (ev_addN (i := few) (j := 1) (ev_var rfl rfl) (ev_nat (n := 1))))) (fun n hn => by omega) (by decide) (fun x => rfl)
    fun j G6 H6 g6 => p_weak (Nat.le_refl 1) (fun x (hx : x < mo + 1) => by omega) (p_draw (K := K) (n := mo + 1) rfl (by omega) (Nat.lt_of_le_of_lt (show mo + 1 ≤ 901 by omega) (by decide)) (ev_ni (ev_addN (ev_var rfl (tNat.mono g6.g r6)) (ev_nat (n := 1))))))) g5.s pen5 (by omega) fun am v7 G6 H6 g6 pen6 fA r7 => ?_
  obtain ⟨hal0, hab⟩ := fA
  have hal : am.length ≤ 39 := by
    have h : am.length < few + 1 := hal0
    omega
  have r3c := tNat.mono g6.g r3b
  have r5c := (tLs tNat).mono g6.g r5b
  have g36 := ((g3.trans g4).trans g5).trans g6
  refine p_ifJ (P := P) (fun σ' H' => ∃ am v7 G', σ' = [some (.ref P), some (.int 8), some (.int (few : Int)), some v3, some v4, some v5, some v6, some v7, none] ∧ Grow (· = P) G H G' H' ∧ Same G6 G' ∧ PenH P (m + 60) G' H' ∧ (tLs tNat).rel am v7 G' ∧ am.length ≤ 39 ∧ ∀ x ∈ am, x ≤ 1000)
    (p_cmp (f := fun i j => decide (V.int i = V.int j)) (p_draw (K := K) (n := 3) rfl (by decide) (by decide) ev_int) (p_pure (ev_nat (n := 0))) fun i j H1 Q q => ⟨rfl, q⟩) g6.s pen6 (by omega) (fun _ G7 H7 g7 pen7 hj => ?_) (fun _ G7 H7 g7 pen7 => ⟨am, v7, G7, rfl, g36.trans g7, g7.g, pen7.mono (by omega), (tLs tNat).mono g7.g r7, hal, hab⟩) ?_
  · have r7a := (tLs tNat).mono g7.g r7
    have l1 : (am.take 1).length ≤ 1 := by rw [List.length_take]; omega
    have zl : (am.take 1).length * am.length ≤ sizeLine := by
      have := Nat.mul_le_mul l1 hal
      rw [sizeLine_eq]
      omega
    refine p_asgS (P := P) (p_froz (pm_pure (em_repL (T := tNat) (xs := am.take 1) zl (by omega) ((em_slice (ev_var rfl r7a) eo_no (eo_part ev_int)).is (cut_to (k := 1))) (ev_len (ev_var rfl r7a))))) g7.s pen7 (by omega) fun am2 v8 G8 H8 g8 pen8 fA2 r8 => hj _ _ ?_
    have fA2 : am2 = (List.replicate am.length (am.take 1)).flatten := fA2
    refine ⟨am2, v8, G8, rfl, (g36.trans g7).trans g8, g7.g.trans g8.g, pen8.mono (by omega), r8, ?_, fun x hx => ?_⟩
    · rw [fA2, List.length_flatten, List.map_replicate, List.sum_replicate_nat]
      have := Nat.mul_le_mul_left am.length l1
      omega
    · rw [fA2] at hx
      obtain ⟨l, hl, hx⟩ := List.mem_flatten.mp hx
      rw [(List.mem_replicate.mp hl).2] at hx
      exact hab x (List.mem_of_mem_take hx)
  · rintro σ' H7 ⟨am, v7, G7, rfl, g37, s67, pen7, r7, hal, hab⟩
    have r3d := tNat.mono s67 r3c
    have r5d := (tLs tNat).mono s67 r5c
    refine p_ifJ (P := P) (fun σ' H' => ∃ am v7 G', σ' = [some (.ref P), some (.int 8), some (.int (few : Int)), some v3, some v4, some v5, some v6, some v7, none] ∧ Grow (· = P) G H G' H' ∧ Same G7 G' ∧ PenH P (m + 70) G' H' ∧ (tLs tNat).rel am v7 G' ∧ am.length ≤ 39 ∧ ∀ x ∈ am, x ≤ 1000)
      (p_cmp (p_draw (K := K) (n := 4) rfl (by decide) (by decide) ev_int) (p_pure (ev_nat (n := 0))) fun i j H1 Q q => ⟨i, j, rfl, rfl, q⟩) g37.s pen7 (by omega) (fun _ G8 H8 g8 pen8 hj => ?_) (fun _ G8 H8 g8 pen8 => ⟨am, v7, G8, rfl, g37.trans g8, g8.g, pen8.mono (by omega), (tLs tNat).mono g8.g r7, hal, hab⟩) ?_
    · refine p_asgS (P := P) (p_froz (pm_pure (em_poured (E := E0) (L := L) (sp := sp) (am := am) (Nat.le_trans hL.2 (by decide)) (fun x hx => Nat.le_trans (hsb x hx).2 (by decide)) (by omega) (by omega) (ev_var rfl (tNat.mono g8.g r3d)) (ev_var rfl ((tLs tNat).mono g8.g r5d)) (ev_var rfl ((tLs tNat).mono g8.g r7))))) g8.s pen8 (by omega) fun am2 v8 G9 H9 g9 pen9 fA2 r9 => hj _ _ ?_
      have fA2 : am2 = pourL L sp am := fA2
      exact ⟨am2, v8, G9, rfl, (g37.trans g8).trans g9, g8.g.trans g9.g, pen9.mono (by omega), r9, by rw [fA2, pour_len]; exact hal, by rw [fA2]; exact pour_le hab⟩
    · rintro σ' H8 ⟨am, v7, G8, rfl, g38, s78, pen8, r7, hal, hab⟩
      have r3e := tNat.mono s78 r3d
      have r5e := (tLs tNat).mono s78 r5d
      refine ⟨v3, rfl, v5, rfl, v7, rfl, (by show 3 ≤ sizeLine; decide), fun p hp => ?_⟩
      have e0 : G8 p = none := Same.none g38.s hp
      have up : Same G8 (upd G8 p (.tup [v3, v5, v7])) := same_upd e0
      exact k L sp am p v3 v5 v7 _ _ (g38.alloc hp) (((pen8.frz (pen_ne pen8 hp) e0).put (pen_ne pen8 hp)).mono (by omega)) hL.1 hL.2 hs8 (fun x hx => (hsb x hx).2) hal hab (tNat.mono up r3e) ((tLs tNat).mono up r5e) ((tLs tNat).mono up r7) upd_same
theorem ev_neB {ta tb : TE} {a b : Bool} (ha : EvT M ta σ G H tBool a) (hb : EvT M tb σ G H tBool b) : EvT M (tOp rNe ta tb) σ G H tBool (!decide (a = b)) :=
  ev_op ha hb fun v w G1 H1 s sg r1 r2 Q k => by
    cases r1
    cases r2
    exact ⟨rfl, k _ G1 H1 (Grow.refl s) (congrArg V.bl (congrArg not (decide_eq_decide.mpr (by simp))))⟩
/-- stretch_plan(length, .., ..) of drawn lists -/
theorem p_plan (N : SegK K) {ta tb tc : TE} {c d L : Nat} {φ ψ : List Nat → Prop} {b : Bool} (hw : ∀ sp am, φ sp → ψ am → (Wd.mk L sp am).Ok ∧ canB L sp am = b) (ha : EvT (· = P) ta σ G H tNat L) (hb : EvP P c tb σ G H (tLs tNat) φ) (hc : EvP P d tc σ G H (tLs tNat) ψ) :
    EvP P (c + d) (tCall (sp_stretch_plan K) [] E0 (tCons ta (tCons tb (tCons tc tNil)))) σ G H (tOpt (tLs (tRow K))) (fun o => o.isSome = b) :=
  fun G1 H1 m g pen hm Q k => ha G1 H1 g _ fun v0 G2 H2 g2 r0 => hb G2 H2 m (g.trans g2.up) (pen.grow g2) (by omega) _ fun sp v1 G3 H3 g3 p3 f3 r1 => hc G3 H3 (m + c) ((g.trans g2.up).trans g3) p3 (by omega) _ fun am v2 G4 H4 g4 p4 f4 r2 =>
    let ⟨w, e⟩ := hw sp am f3 f4
    spec_planL N w G4 H4 v0 v1 v2 _ E0 g4.s (tNat.mono (g3.g.trans g4.g) r0) ((tLs tNat).mono g4.g r1) r2 fun u G5 H5 g5 r5 =>
      k _ u G5 H5 (((g2.up.trans g3).trans g4).trans g5.up) (by rw [← Nat.add_assoc]; exact p4.grow g5) ((plan_some w).trans e) r5
end
end My

/-! The law. -/
namespace My
open PySem PySem.Spec PyProof.Rows L2
open He (ga ma)
section
variable {K : PySem.W.Frag} {G H : Hp}
theorem lspec_law (N : SegK K) (a : Addr) (ns : List Int) (hlen : ns.length ≤ 63) (hs : SqL K H a (ns.map V.int)) : sp_law K [.ref a] H (fun v _ => v = .bl true) fun _ _ _ => False := by
  have sm : Same H H := Same.refl H
  refine ⟨rfl, .ref a, rfl, pen_run (E := E0) (G := H) sm hs fun P G1 H1 g1 pen => ?_⟩
  have hs1 := sql_mono g1.g hs
  have hm : ∃ n : Nat, (2 : Int) + (if (ns.length : Int) < 3 then (ns.length : Int) else 3) = (n : Int) ∧ n ≤ 20 := ⟨2 + min ns.length 3, by split <;> omega, by omega⟩
  obtain ⟨n, en, hn⟩ := hm
  refine q_rng (M := NoM) (n := n) ((ev_add ev_int (ev_min2 (i := 3) ev_int (ev_lenI hs1 (ev_var rfl rfl)))).is en) (by omega) g1.s
    (fun i σ G' H' => ∃ u2 u3 u4 u5 u6 u7 u8 u9 u10 u11 u12 u13, σ = [some (.ref a), some (.ref P), u2, u3, u4, u5, u6, u7, u8, u9, u10, u11, u12, u13] ∧ Same G' H' ∧ PenH P (i * 1000) G' H') (fun G2 H2 g2 => ⟨none, none, none, none, none, none, none, none, none, none, none, none, rfl, g2.s, by rw [Nat.zero_mul]; exact pen.grow g2⟩) ?_ ?_
  · rintro G0 i σ G2 H2 s0 hi ⟨u2, u3, u4, u5, u6, u7, u8, u9, u10, u11, u12, u13, rfl, s2, pen2⟩
    have hi2 : i * 1000 + 1000 ≤ 100000 := by omega
    obtain ⟨few, ef, hf0, hf⟩ : ∃ few : Nat, (if decide ((i : Int) = 0) then (39 : Int) else 9) = (few : Int) ∧ 0 < few ∧ few ≤ 39 := by
      by_cases c : (i : Int) = 0
      · rw [decide_eq_true c]
        exact ⟨39, rfl, by decide, by decide⟩
      · rw [decide_eq_false c]
        exact ⟨9, rfl, by decide, by decide⟩
    refine ⟨.ref P, rfl, ?_⟩
    refine ((ev_if (M := NoM) (T := tInt) (eb_test (ev_eqI (i := (i : Int)) (ev_var rfl rfl) (ev_int (i := 0)))) (fun _ => ev_int (i := 39)) (fun _ => ev_int (i := 9))).is ef).go s2 fun vf Gf Hf gf rf => ?_
    cases rf
    refine drawn_run (E := E0) (pen2.grow gf) gf.s hf0 hf (by omega) fun L sp am p v3 v4 v5 G3 H3 g3 pen3 hL0 hL9 hs8 hsb hal hab r3 r4 r5 ep => ?_
    refine ⟨p, _, rfl, SqT.of (g3.s p _ ep), rfl, _, _, rfl, _, _, rfl, _, _, rfl, rfl, ?_⟩
    have w : (Wd.mk L sp am).Ok := ⟨hL0, Nat.le_trans hL9 (by decide), Nat.le_trans hs8 (by decide), fun x hx => Nat.le_trans (hsb x hx) (by decide), Nat.le_trans hal (by decide), fun x hx => Nat.le_trans (hab x hx) (by decide)⟩
    -- right
    refine q_when (M := NoM) (b := false) ((eb_not (b := true) (eb_B (ev_call3 (lspec_right N w) (ev_var rfl r3) (ev_var rfl r4) (ev_var rfl r5)))).is rfl) g3.s (fun h => (by cases h)) fun _ G4 H4 g4 => ?_
    have pen4 := pen3.grow g4
    have r3a := tNat.mono g4.g r3
    have r4a := (tLs tNat).mono g4.g r4
    have r5a := (tLs tNat).mono g4.g r5
    -- done or not, the ratio
    refine p_tup2 (P := P) (K := K) (T := tBool) (p_pure (ev_notN (ev_call3 (spec_planL N w) (ev_var rfl r3a) (ev_var rfl r4a) (ev_var rfl r5a)))) (p_add (p_pure (ev_nat (n := 1))) (p_great (K := K) rfl (fun f (hf : f = 12) => hf ▸ (by decide)) (p_pure (ev_nat (n := 12))))) g4.s pen4 (by omega) fun dn r v6 v7 G5 H5 g5 pen5 fd fr r6 r7 => ?_
    have fd : dn = canB L sp am := Eq.trans (show dn = (Wd.mk L sp am).plan.isSome from fd) (plan_some w)
    subst fd
    have hr : 0 < r ∧ r ≤ 10 ^ 12 := by
      obtain ⟨x, y, h1, ⟨f, hf, h2⟩, h3⟩ := fr
      have h1 : x = 1 := h1
      have hf : f = 12 := hf
      subst hf
      omega
    have r3b := tNat.mono g5.g r3a
    have r4b := (tLs tNat).mono g5.g r4a
    have r5b := (tLs tNat).mono g5.g r5a
    -- the other
    refine p_asg (P := P) (p_plan N (L := L) (b := canB L sp am) (φ := fun ys => ∃ xs, xs = sp ∧ ys.Perm xs) (ψ := fun ys => ∃ xs, xs = am ++ [0] ∧ ys.Perm xs) (fun sp2 am2 ⟨xs, h1, h2⟩ ⟨ys, h3, h4⟩ => ?_) (ev_var rfl r3b) (p_froz (p_shuf (K := K) (B := 8) rfl (fun xs (h : xs = sp) => h ▸ hs8) (by decide) (p_pure (ev_var rfl r4b))))
      (p_froz (p_shuf (K := K) (B := 40) rfl (fun xs (h : xs = am ++ [0]) => by rw [h, List.length_append]; exact Nat.succ_le_succ hal) (by decide) (p_pure (ev_cat (T := tNat) (ys := [0]) (by rw [sizeLine_eq]; show am.length + 1 ≤ _; omega) (ev_var rfl r5b) (ev_lst1 (ev_nat (n := 0)))))))) g5.s pen5 (by omega) fun o8 v8 G6 H6 g6 pen6 f8 r8 => ?_
    · subst h1
      subst h3
      refine ⟨⟨hL0, Nat.le_trans hL9 (by decide), by show sp2.length ≤ 100; rw [h2.length_eq]; omega, fun x hx => Nat.le_trans (hsb x (h2.mem_iff.mp hx)) (by decide), by show am2.length ≤ 45; rw [h4.length_eq, List.length_append]; show am.length + 1 ≤ 45; omega, fun x hx => ?_⟩, can_same h2 h4⟩
      have hx : x ∈ am2 := hx
      rcases List.mem_append.mp (h4.mem_iff.mp hx) with hx | hx
      · exact Nat.le_trans (hab x hx) (by decide)
      · have : x = 0 := by simpa using hx
        rw [this]
        exact Nat.zero_le _
    have r6a := tBool.mono g6.g r6
    refine q_when (M := NoM) (b := false) ((eb_test (ev_neB (ev_notN (ev_var rfl r8)) (ev_var rfl r6a))).is (by rw [f8]; simp)) g6.s (fun h => (by cases h)) fun _ G7 H7 g7 => ?_
    have s57 := g6.g.trans g7.g
    have pen7 := pen6.grow g7
    have r3c := tNat.mono s57 r3b
    have r4c := (tLs tNat).mono s57 r4b
    have r5c := (tLs tNat).mono s57 r5b
    have r6c := tBool.mono s57 r6
    have r7c := tNat.mono s57 r7
    have hlm : am.length ≤ 100000 := Nat.le_trans hal (by decide)
    have wr : ∀ x : Nat, x ≤ 1000 → CMulW (x : Int) (r : Int) := fun x hx => nat_wide (Nat.lt_of_le_of_lt hx (by decide)) (Nat.lt_of_le_of_lt hr.2 (by decide))
    -- large
    refine q_asg (M := NoM) (T := tLs tNat) (x := am.map fun x => x * r) (ev_lcm (f := fun x : Nat => x * r) (T := tNat) (S := tNat) (ev_var rfl r5c) hlm (fun x => rfl) fun x u G8 H8 hx g8 ru => ev_mulN (wr x (hab x hx)) (ev_var rfl ru) (ev_var rfl (tNat.mono g8.g r7c))) g7.s fun v9 G8 H8 g8 r9 => ?_
    have r3d := tNat.mono g8.g r3c
    have r4d := (tLs tNat).mono g8.g r4c
    have r6d := tBool.mono g8.g r6c
    have r7d := tNat.mono g8.g r7c
    have r5d := (tLs tNat).mono g8.g r5c
    have rb : ∀ x y : Nat, x ≤ y → x * r ≤ y * 10 ^ 12 := fun x y h => Nat.mul_le_mul h hr.2
    have lb : ∀ x ∈ am.map fun x => x * r, x ≤ 2 ^ 200 := fun x hx => by
      obtain ⟨y, hy, rfl⟩ := List.mem_map.mp hx
      exact Nat.le_trans (rb y 1000 (hab y hy)) (by decide)
    have w2 : (Wd.mk L (sp.map fun x => x * r) (am.map fun x => x * r)).Ok := ⟨hL0, Nat.le_trans hL9 (by decide), by show (sp.map _).length ≤ 100; rw [List.length_map]; omega, fun x hx => (by
      obtain ⟨y, hy, rfl⟩ := List.mem_map.mp hx
      exact Nat.le_trans (rb y 12 (hsb y hy)) (by decide)), by show (am.map _).length ≤ 45; rw [List.length_map]; omega, lb⟩
    have w3 : (Wd.mk (L * r) sp (am.map fun x => x * r)).Ok := ⟨Nat.mul_pos hL0 hr.1, Nat.le_trans (rb L 9 hL9) (by decide), Nat.le_trans hs8 (by decide), fun x hx => Nat.le_trans (hsb x hx) (by decide), by show (am.map _).length ≤ 45; rw [List.length_map]; omega, lb⟩
    -- larger
    refine q_asg (M := NoM) (T := tOpt (tLs (tRow K))) (ev_call3 (spec_planL N w2) (ev_var rfl r3d) (ev_lcm (f := fun x : Nat => x * r) (T := tNat) (S := tNat) (ev_var rfl r4d) (Nat.le_trans hs8 (by decide)) (fun x => rfl) fun x u G9 H9 hx g9 ru => ev_mulN (wr x (Nat.le_trans (hsb x hx) (by decide))) (ev_var rfl ru) (ev_var rfl (tNat.mono g9.g r7d))) (ev_var rfl r9)) g8.s fun v10 G9 H9 g9 r10 => ?_
    have wL : CMulW (L : Int) (r : Int) := wr L (Nat.le_trans hL9 (by decide))
    -- longer
    refine q_asg (M := NoM) (T := tOpt (tLs (tRow K))) (ev_call3 (spec_planL N w3) (ev_mulN wL (ev_var rfl (tNat.mono g9.g r3d)) (ev_var rfl (tNat.mono g9.g r7d))) (ev_var rfl ((tLs tNat).mono g9.g r4d)) (ev_var rfl ((tLs tNat).mono g9.g r9))) g9.s fun v11 G10 H10 g10 r11 => ?_
    have s810 := g9.g.trans g10.g
    have r6e := tBool.mono s810 r6d
    have e2 := (plan_some w2).trans (can_larger (L := L) hr.1 sp am)
    have e3 := (plan_some w3).trans (can_longer (L := L) hr.1 sp am)
    refine q_when (M := NoM) (b := false) ((eb_or (a := false) (b := false) ((eb_test (ev_neB (ev_notN (ev_var rfl ((tOpt (tLs (tRow K))).mono g10.g r10))) (ev_var rfl r6e))).is (by rw [e2]; simp)) fun _ => ((eb_test (ev_neB (ev_notN (ev_var rfl r11)) (ev_var rfl r6e))).is (by rw [e3]; simp))).is rfl) g10.s (fun h => (by cases h)) fun _ G11 H11 g11 => ?_
    have s811 := s810.trans g11.g
    have r3e := tNat.mono s811 r3d
    have r4e := (tLs tNat).mono s811 r4d
    have r5e := (tLs tNat).mono s811 r5d
    have r6f := tBool.mono s811 r6d
    have r7e := tNat.mono s811 r7d
    have r9e := (tLs tNat).mono s811 r9
    have r11e := (tOpt (tLs (tRow K))).mono g11.g r11
    have g711 := (((g8.trans g9).trans g10).trans g11)
    have pen11 := pen7.grow g711
    -- the longer one does it
    have t1 : EvB NoM (tAnd (tB (tVar 6)) (tNot (tB (tCall (sp_l_does_stretch K) [] E0 (tCons (tOp rMulW (tVar 3) (tVar 7)) (tCons (tVar 4) (tCons (tVar 9) (tCons (tVar 11) tNil)))))))) [some (.ref a), some (.ref P), some (.int (i : Int)), some v3, some v4, some v5, some v6, some v7, some v8, some v9, some v10, some v11, u12, u13] G11 H11 false := by
      refine (eb_and (a := canB L sp am) (b := false) (eb_B (ev_var rfl r6f)) fun hc => ?_).is (by simp)
      have pl := plan_law w3
      rw [hc] at e3
      cases ep : (Wd.mk (L * r) sp (am.map fun x => x * r)).plan with
      | none => rw [ep] at e3; cases e3
      | some res =>
        rw [ep] at pl r11e
        obtain ⟨_, lanes, inv⟩ := pl
        exact (eb_not (b := true) (eb_B (ev_call4 (lspec_does w3 inv) (ev_mulN wL (ev_var rfl r3e) (ev_var rfl r7e)) (ev_var rfl r4e) (ev_var rfl r9e) (ev_var rfl r11e.2)))).is rfl
    refine q_when (M := NoM) (b := false) t1 g11.s (fun h => (by cases h)) fun _ G12 H12 g12 => ?_
    have r3f := tNat.mono g12.g r3e
    have r4f := (tLs tNat).mono g12.g r4e
    have r5f := (tLs tNat).mono g12.g r5e
    have w4 : (Wd.mk L sp (am.drop 1)).Ok := ⟨hL0, w.l1, w.sl, w.sb, by show (am.drop 1).length ≤ 45; rw [List.length_drop]; omega, fun x hx => w.ab x (List.mem_of_mem_drop hx)⟩
    refine q_when (M := NoM) (b := false) ((eb_and (a := canB L sp am) (b := (Wd.mk L sp (am.drop 1)).plan.isNone) (eb_B (ev_var rfl (tBool.mono g12.g r6f))) fun hc => eb_test (ev_isN (ev_call3 (spec_planL N w4) (ev_var rfl r3f) (ev_var rfl r4f) ((ev_slice (ev_var rfl r5f) (eo_part ev_int) eo_no).is (cut_from (k := 1)))))).is ?_) g12.s (fun h => (by cases h)) fun _ G13 H13 g13 => ?_
    · cases hc : canB L sp am with
      | false => rfl
      | true =>
        have e4 := (plan_some w4).trans (can_fewer hc)
        cases ep : (Wd.mk L sp (am.drop 1)).plan with
        | none => rw [ep] at e4; cases e4
        | some res => rfl
    have r3g := tNat.mono g13.g r3f
    have r4g := (tLs tNat).mono g13.g r4f
    have r5g := (tLs tNat).mono g13.g r5f
    have hsum : sp.sum ≤ 96 := by
      have e := topS_all sp (Nat.le_refl _)
      have := top_le (B := 12) sp sp.length hsb
      rw [e] at this
      exact Nat.le_trans this (Nat.mul_le_mul_right 12 hs8)
    have w5 : (Wd.mk L sp (am ++ [L * sp.sum + 1])).Ok := ⟨hL0, w.l1, w.sl, w.sb, by show (am ++ _).length ≤ 45; rw [List.length_append]; show am.length + 1 ≤ 45; omega, fun x hx => (by
      rcases List.mem_append.mp hx with hx | hx
      · exact w.ab x hx
      · have : x = L * sp.sum + 1 := by simpa using hx
        rw [this]
        exact Nat.le_trans (Nat.succ_le_succ (Nat.mul_le_mul hL9 hsum)) (by decide))⟩
    have e5 := (plan_some w5).trans (can_not L sp am)
    refine s_when (M := NoM) (b := false) ((eb_test (ev_notN (ev_call3 (spec_planL N w5) (ev_var rfl r3g) (ev_var rfl r4g) (ev_cat (T := tNat) (ys := [L * sp.sum + 1]) (by rw [sizeLine_eq]; show am.length + 1 ≤ _; omega) (ev_var rfl r5g) (ev_lst1 (ev_addN (ev_mulN (nat_wide (Nat.lt_of_le_of_lt hL9 (by decide)) (Nat.lt_of_le_of_lt hsum (by decide))) (ev_var rfl r3g) (ev_sum (ev_var rfl r4g))) (ev_nat (n := 1)))))))).is e5) g13.s (fun h => (by cases h)) fun _ G14 H14 g14 => ?_
    have s214 : Same G2 G14 := ((((((((gf.g.trans g3.g).trans g4.g).trans g5.g).trans s57).trans g8.g).trans s811).trans g12.g).trans g13.g).trans g14.g
    exact ⟨G14, s0.trans s214, some _, some v3, some v4, some v5, some v6, some v7, some v8, some v9, some v10, some v11, u12, u13, rfl, g14.s, (((pen11.grow g12).grow g13).grow g14).mono (by omega)⟩
  · rintro σ G2 H2 ⟨u2, u3, u4, u5, u6, u7, u8, u9, u10, u11, u12, u13, rfl, s2, pen2⟩
    exact rfl
end
end My

namespace My
open PySem PySem.Spec PyProof.Rows L2
open He (ga ma)
theorem facts {P : Program} {w : World} {K : PySem.W.Frag} {h : Heap} {mg : Str → Option Value} {f : Addr} (X : K.In h) (G : h.Ns mainGlobals mg) (hfa : mg ("law" : Str) = some (.ref f)) (c : He.SaysX fa fn [] [] exB w h K) :
    SegK K ∧ ∃ fd : FuncData, (∀ (s : Shared) (v : Value), BindsTo s fd ⟨[v], []⟩ [("_law_script", v)]) ∧ ∀ base : Heap, K.In base → base.Ns mainGlobals mg → FnOkG P w K mg base CX0 10 f fd ["_law_script"] (sp_law K) := by
  obtain ⟨T⟩ := tx_of X G c
  have e := hfa.symm.trans T.g_law
  cases e
  have b := FunD.bindsA (ps := ["_law_script"]) T.F_law fun _ _ _ _ _ _ us hl => match us, hl with | [_], _ => rfl
  exact ⟨⟨T.c_Segment, na_opening c, na_closing c, na_rate c, na_owner c, fun H => He.tupB_ok c.more H⟩, T.fd_law, fun s v => b s [v] rfl, fun base _ _ => ok_law T⟩
end My
open PySem PySem.W PySem.Calls PyProof.Rows
theorem PySem.Challenge.cw_cutworks_k52_whole_stretches_of_any_size_holds : PySem.Challenge.rw_cutworks_k52_whole_stretches_of_any_size.Holds := by
  w_on; o_law
  refine HandSHeadRun.head_any (r := OpenLaw.row PySem.Challenge.rw_cutworks_k52_whole_stretches_of_any_size) (q := view (OpenLaw.row PySem.Challenge.rw_cutworks_k52_whole_stretches_of_any_size).prog [42]) (H := My.hk) (ob := My.ob) (M := 2000) (loose := My.loose) (d := HandSHeadRun.topDef (OpenLaw.row PySem.Challenge.rw_cutworks_k52_whole_stretches_of_any_size).prog 42) (kwd := []) My.ob_eq
    (by kernel_rfl) (fun s => by kernel_rfl) My.run (by kernel_rfl) (by kernel_rfl) (by kernel_rfl) (by rfl) (by first | assumption | decide +kernel) (by decide +kernel) ⟨rfl, rfl, rfl, rfl, rfl, by decide +kernel⟩ ?hw ?hc
  case hw => w_witness2
  case hc =>
    refine My.walkG (l := PySem.Challenge.rw_cutworks_k52_whole_stretches_of_any_size) (n := 63) (k := 10) (x := "_law_script") rfl (by decide) (by kernel_rfl) ⟨rfl, by decide, by decide⟩ ?F
    intro w mg fa h Y G hmg0
    obtain ⟨K, KX, c⟩ := Y
    have hmg : mg ("law" : PySem.Str) = some (.ref fa) := by
      have e : (HandSHeadRun.topDef (OpenLaw.row PySem.Challenge.rw_cutworks_k52_whole_stretches_of_any_size).prog 42).name = ("law" : PySem.Str) := by kernel_rfl
      rw [← e]
      exact hmg0
    obtain ⟨N, fd, hb, hF⟩ := My.facts (P := (PySem.Challenge.rw_cutworks_k52_whole_stretches_of_any_size).prog) (w := w) KX G hmg c
    exact ⟨K, fd, My.sp_law K, KX, hb, fun H a ns hl _ hS => My.lspec_law N a ns hl hS, hF⟩

