import PyProof.Rows.All
import Wide.All
import OpenK.AllK
import Wide.FinOn
import PyProof.EqAt
import PyProof.EqKinds
import PyProof.TupleCall
import HandS.Base
import HandS.Call
import HandS.List
import HandS.TupAny
import HandS.Dict
import HandS.Iter
import KE.KDictPairs
import KE.KRevSl
import HandS.More
import KE.DataFind
import KE.DataEq
import KE.GoesMore
import PyProof.EnumMake
import HandS.ForMost
import HandS.Deep
import HandS.IsInst
import HandS.Style
import HandS.TupLe
import HandS.Wide
import HandS.Flow
import HandS.StrMore
import HandS.Zip
import HandS.RaiseMore
import HandS.Replace
import HandS.HeadEnd
import HandS.Defaults
import HandS.EndBits
import HandS.Head0
import HandS.Head1
import HandS.Head2
import HandS.HeadHook1
import HandS.HeadHook2
import PySem.Challenge.RW_askfolds_k08_terms_worked_out
set_option Elab.async false
set_option linter.all false
set_option maxRecDepth 100000
section
set_option maxHeartbeats 4000000
/-! EvT: tuples whose object is known. -/
namespace Ev
open PySem PySem.Spec L2 PyProof.Rows HT
/-- a plain tuple's object -/
def PlainT (o : Obj) : Prop := o.cls = .type "tuple" ∧ o.dict = none
/-- what is wanted where a new tuple stands -/
def NewT (H : Hp) (xs : List V) (Q : VK) : Prop := ∀ o p, PlainT o → H p = none → Q (.ref p) (upd H p (.frz o (.tup xs)))
section
variable {X : Cx} {pins : List (Addr × Obj)} {σ : L2.St} {H : Hp} {s : Shared} {Q : VK}
theorem lay_tup {xs : List V} {its : List Value} (I : Inv X pins σ H s) (r : Vals xs its) (hz : xs.length ≤ sizeLine) (q : NewT H xs Q) :
    EP X pins σ Q (.ref s.heap.objs.size) { s with heap := s.heap.push { cls := .type "tuple", data := .seq its.toArray } } :=
  ⟨.ref s.heap.objs.size, upd H s.heap.objs.size (.frz { cls := .type "tuple", data := .seq its.toArray } (.tup xs)), I.laid (t' := s.toks) (fun b ob q => Heap.get?_push_of_some _ q) (Nat.le_refl _)
    (show ObjOk X.prog X.w _ _ _ (.frz _ (.tup xs)) from ⟨Heap.get?_push_size _ rfl, hz, its, r, IsTup.new _ _⟩), rfl, q _ _ ⟨rfl, rfl⟩ (I.hok.fresh (Nat.le_refl _))⟩
def tTupF (t : TA) : TE := fun σ H Q => t σ H fun xs H1 => xs.length ≤ sizeLine ∧ NewT H1 xs Q
theorem pe_tupF {es : List Expr} {t : TA} {pos : Pos} {x1} (h : PA X es t) : PE X (.Tuple es x1 pos) (tTupF t) := by
  refine ⟨fun pins s σ H Q I hq => ?_⟩
  exact wpAny_Tuple_spliced (thn (h.run pos pins s σ H _ I hq) fun us s1 ⟨xs, H1, I1, r, z, q⟩ => ⟨by rw [← r.length]; exact z, lay_tup I1 r z q⟩)
/-- t + u -/
def rCatF (K : PySem.W.Frag) : R2 := fun x y H Q => ∃ a b xs ys, x = .ref a ∧ y = .ref b ∧ SqT K H a xs ∧ SqT K H b ys ∧ xs.length + ys.length ≤ sizeLine ∧
  (xs = [] → Q (.ref b) H) ∧ (xs ≠ [] → ys = [] → Q (.ref a) H) ∧ (xs ≠ [] → ys ≠ [] → NewT H (xs ++ ys) Q)
theorem op_catF : OpR X (binaryOp .Add) (rCatF X.K) := by
  intro pins s σ H x y v u Q I rx ry h
  obtain ⟨a, b, xs, ys, rfl, rfl, ha, hb, hz, q0, q1, q2⟩ := h
  cases rx
  cases ry
  obtain ⟨its, r1, p1, _⟩ := I.tuple ha
  obtain ⟨its2, r2, p2, _⟩ := I.tuple hb
  by_cases hx : xs = []
  · subst hx
    cases r1
    exact cat_tup0 p1 p2 ⟨.ref b, H, I, rfl, q0 rfl⟩
  · refine HT.cat_tup p1 p2 (fun z => hx (r1.nil_iff.mp z)) (fun z => ⟨.ref a, H, I, rfl, q1 hx (r2.nil_iff.mp z)⟩) (fun z => ?_) (by rw [← r1.length, ← r2.length]; exact hz)
    exact lay_tup I (r1.append r2) (by rw [List.length_append]; exact hz) (q2 hx (fun w => z (r2.nil_iff.mpr w)))
/-- t[lo:hi] -/
def rSlF (K : PySem.W.Frag) : V → Option Int → Option Int → Hp → VK → Prop := fun x lo hi H Q => ∃ a xs, x = .ref a ∧ SqT K H a xs ∧
  (HT.sIx xs.length 0 lo = 0 ∧ HT.sIx xs.length xs.length hi = xs.length → Q (.ref a) H) ∧ (¬ (HT.sIx xs.length 0 lo = 0 ∧ HT.sIx xs.length xs.length hi = xs.length) → NewT H (cutV xs lo hi) Q)
theorem sl_tupF : SlR X (rSlF X.K) := by
  intro pins s σ H x v vl vu lo hi sl Q I rx hs pl pu h
  obtain ⟨a, xs, rfl, hx, q1, q2⟩ := h
  cases rx
  obtain ⟨its, r, ht, hz⟩ := I.tuple hx
  have hlen : its.toArray.size = xs.length := by rw [List.size_toArray]; exact r.length.symm
  refine ⟨"tuple", _, PyProof.Rows.slot_tuple_getitem.lookup, ht.typeIs, ?_⟩
  by_cases hw : HT.sIx xs.length 0 lo = 0 ∧ HT.sIx xs.length xs.length hi = xs.length
  · exact getItem_tuple_whole ht hs pl pu (by rw [hlen]; exact hw) ⟨.ref a, H, I, rfl, q1 hw⟩
  · refine HT.getItem_tuple_cut ht hs pl pu (by rw [hlen]; exact hw) ?_ (by rw [hlen]; exact hz)
    rw [hlen]
    exact lay_tup I ((r.drop (HT.sIx xs.length 0 lo)).take (HT.sIx xs.length xs.length hi - HT.sIx xs.length 0 lo)) (Nat.le_trans (cutV_length xs lo hi) hz) (q2 hw)
/-- tuple(xs) -/
theorem call_tupleF : CallR X (.type "tuple") (fun xs H Q => ∃ p ys, xs = [.ref p] ∧ ((SqL X.K H p ys ∧ NewT H ys Q) ∨ (SqT X.K H p ys ∧ Q (.ref p) H))) := by
  intro pins s σ H xs us Q I r h
  obtain ⟨p, ys, rfl, h⟩ := h
  obtain ⟨u, rfl, rx⟩ := vals1 r
  cases rx
  rcases h with ⟨hq, q⟩ | ⟨hq, q⟩
  · obtain ⟨its, r', pl, hz⟩ := I.list hq
    have hlen := r'.length
    refine call_tuple_list pl.isList (fun h' kp => ?_) (by simp only [List.size_toArray] <;> omega)
    have I1 : Inv X pins σ H { s with heap := h' } := I.kept (t' := s.toks) kp
    exact lay_tup I1 r' hz q
  · obtain ⟨its, r', pl, hz⟩ := I.tuple hq
    exact call_tuple_same pl ⟨.ref p, H, I, rfl, q⟩
/-! t[::-1] -/
theorem rev_pick (xs : Array Value) : ((List.range xs.size).filterMap fun (m : Nat) => xs[(((xs.size : Int) - 1) + (m : Int) * (-1)).toNat]?).toArray = xs.toList.reverse.toArray := by
  congr 1
  have e : ∀ n ≤ xs.size, ((List.range n).filterMap fun (m : Nat) => xs[(((xs.size : Int) - 1) + (m : Int) * (-1)).toNat]?) = (xs.toList.drop (xs.size - n)).reverse := by
    intro n
    induction n with
    | zero => intro _; simp
    | succ n ih =>
      intro hn
      rw [List.range_succ, List.filterMap_append, ih (by omega)]
      have h1 : (((xs.size : Int) - 1) + (n : Int) * (-1)).toNat = xs.size - (n + 1) := by omega
      have h2 : xs.size - (n + 1) < xs.toList.length := by rw [Array.length_toList]; omega
      have h3 : xs.toList.drop (xs.size - (n + 1)) = xs.toList[xs.size - (n + 1)] :: xs.toList.drop (xs.size - n) := by
        rw [List.drop_eq_getElem_cons h2]
        congr 2
        omega
      rw [h3, List.reverse_cons]
      congr 1
      simp only [List.filterMap_cons, List.filterMap_nil, h1]
      have h4 : xs[xs.size - (n + 1)]? = some xs.toList[xs.size - (n + 1)] := by
        rw [Array.getElem?_eq_getElem (by omega)]; rfl
      rw [h4]
  have := e xs.size (Nat.le_refl _)
  rw [Nat.sub_self, List.drop_zero] at this
  exact this
theorem slicePart1 {prog : Program} {w : World} {A : Around} {E : Value → Shared → Prop} {s : Shared} {v : Value} {o : Option Int} {Q : Option Int → Shared → Prop} (p : IsPart v o) (h : Q o s) : wpAny (model prog w) A (Builtin.Slice.slicePartIndex v) Q E s := slicePart_ p h
theorem sliceApplied_rev {prog : Program} {w : World} {A : Around} {E : Value → Shared → Prop} {s : Shared} {sl : Addr} {vl vu vs : Value} {n : Nat} {Q : Int × Int × Nat → Shared → Prop} (hs : s.heap.IsSliceOf sl vl vu vs) (pl : IsPart vl none) (pu : IsPart vu none) (ps : IsPart vs (some (-1)))
    (h : Q ((n : Int) - 1, -1, n) s) : wpAny (model prog w) A (Builtin.Slice.sliceApplied (.ref sl) (pure (n : Int))) Q E s := by
  obtain ⟨os, hos, hcs, hds⟩ := id hs
  unfold Builtin.Slice.sliceApplied Builtin.Slice.sliceFields
  refine wpAny_bind (wpAny_bind (wpAny_field hos hds (x := vl) rfl (wpAny_bind (wpAny_field hos hds (x := vu) rfl (wpAny_bind (wpAny_field hos hds (x := vs) rfl (wpAny_pure ?_)))))))
  refine wpAny_bind (slicePart_ ps ?_)
  show wpAny _ _ (if ((-1 : Int) == 0) = true then _ else _) _ _ s
  rw [if_neg (by decide)]
  refine wpAny_bind (slicePart_ pl (wpAny_bind (slicePart_ pu (wpAny_bind (wpAny_pure ?_)))))
  show wpAny _ _ (pure ((n : Int) - 1, (-1 : Int), Builtin.Slice.slicePlaces ((n : Int) - 1) (-1) (-1))) _ _ s
  have e : Builtin.Slice.slicePlaces ((n : Int) - 1) (-1) (-1) = n := by
    unfold Builtin.Slice.slicePlaces
    have h1 : ¬ ((-1 : Int) > 0) := by omega
    simp only [h1, if_false, Int.neg_neg, Int.ediv_one]
    split <;> omega
  rw [e]
  exact wpAny_pure h
theorem getItem_tuple_rev {prog : Program} {w : World} {A : Around} {E : Value → Shared → Prop} {s : Shared} {t sl : Addr} {items : Array Value} {vl vu vs : Value} {Q : Value → Shared → Prop} (ht : IsTup s.heap t items) (hs : s.heap.IsSliceOf sl vl vu vs) (pl : IsPart vl none) (pu : IsPart vu none) (ps : IsPart vs (some (-1)))
    (h : Q (.ref s.heap.objs.size) { s with heap := s.heap.push { cls := .type "tuple", data := .seq items.toList.reverse.toArray } })
    (hsz : items.size ≤ sizeLine) : wpAny (model prog w) A (getItem (.ref t) (.ref sl)) Q E s := by
  have htake : sizeOk (.seq items.toList.reverse.toArray) := by
    show items.toList.reverse.toArray.size ≤ sizeLine
    rw [List.size_toArray, List.length_reverse, Array.length_toList]
    exact hsz
  obtain ⟨os, hos, hcs, hds⟩ := id hs
  have hTs : s.TypeIs (.ref sl) "slice" := ⟨os, hos, hcs⟩
  unfold getItem
  try with_reducible refine wpAny_holding ?_
  first | refine wpAny_bind (wpAny_pure ?_) | skip
  refine wpAny_bind (wpAny_sequenceKey ht.typeIs (by decide) ?_)
  refine wpAny_bind (wpAny_callSpecial?_slot (name := Str.ofString "__getitem__") ht.typeIs PyProof.Rows.slot_tuple_getitem
    (wpAny_call_entry PyProof.Rows.slot_tuple_getitem ht.typeIs entry_tuple_getitem ?_ (args_tuple_getitem _ _)))
  show wpAny _ _ (Builtin.Tuple.tupleItemsOf (.ref t) >>= _) _ _ s
  refine wpAny_bind (tupleItemsOf_ ht ?_)
  refine wpAny_bind (wpAny_typeOf hTs ?_)
  rw [if_pos (by decide)]
  refine wpAny_bind (sliceApplied_rev hs pl pu ps ?_)
  have hno : ¬ ((((items.size : Int) - 1) == 0 && (-1 : Int) == 1 && items.size == items.size) = true) := by
    intro q
    rw [Bool.and_eq_true, Bool.and_eq_true] at q
    exact absurd q.1.2 (by decide)
  show wpAny _ _ (if (((items.size : Int) - 1) == 0 && (-1 : Int) == 1 && items.size == items.size) = true then _ else _) _ _ s
  rw [if_neg hno, rev_pick]
  first
    | exact wpAny_bind (m := Builtin.Tuple.tupleExact _) (wpAny_newObj_type (wpAny_pure ⟨_, rfl, wpAny_pure h⟩) htake)
    | exact wpAny_bind (m := Builtin.Tuple.tupleExact _) (wpAny_newObj_type (wpAny_bind (wpAny_pure (wpAny_pure ⟨_, rfl, wpAny_pure h⟩))) htake)
    | exact wpAny_bind (wpAny_bind (m := Builtin.Tuple.tupleExact _) (wpAny_newObj_type (wpAny_pure (wpAny_pure ⟨_, rfl, wpAny_pure h⟩)) htake))
    | exact wpAny_bind (wpAny_bind (m := Builtin.Tuple.tupleExact _) (wpAny_newObj_type (wpAny_pure ⟨_, rfl, wpAny_pure h⟩) htake))
/-- x[::-1] of a list or tuple -/
def tRevF (K : PySem.W.Frag) (te : TE) : TE := fun σ H Q => te σ H fun x H1 => ∃ a xs, x = .ref a ∧ ((SqL K H1 a xs ∧ ∀ p, H1 p = none → Q (.ref p) (upd H1 p (.lst xs.reverse))) ∨ (SqT K H1 a xs ∧ NewT H1 xs.reverse Q))
theorem pe_revF {e : Expr} {te : TE} {k : Nat} {p1 p2 p3 pos : Pos} (he : PE X e te) : PE X (.Subscript e (.Slice none none (some (.UnaryOp .USub (.Constant (.int 1) k p1) p2)) p3) pos) (tRevF X.K te) := by
  refine ⟨fun pins s σ H Q I h => ?_⟩
  refine Subscript_ (thn (he.run pins s σ H _ I h) fun v s1 ⟨x, H1, I1, r1, q1⟩ => ?_)
  obtain ⟨a, xs, ex, q⟩ := q1
  subst ex
  cases r1
  have hst : PO X (some (.UnaryOp .USub (.Constant (.int 1) k p1) p2)) (tPart (tUn (rU fun i => .int (-i)) (tC (.int 1)))) := po_some (pe_un un_neg pe_int)
  refine wpAny_Slice (thn (po_none.run pins s1 σ H1 (fun o H2 => o = none ∧ H2 = H1) I1 ⟨rfl, rfl⟩) fun vl s2 ⟨l, H2, I2, pl, el, e2⟩ => ?_)
  subst el e2
  refine thn (po_none.run pins s2 σ H2 (fun o H3 => o = none ∧ H3 = H2) I2 ⟨rfl, rfl⟩) fun vu s3 ⟨u, H3, I3, pu, eu, e3⟩ => ?_
  subst eu e3
  refine thn (hst.run pins s3 σ H3 (fun o H4 => o = some (-1) ∧ H4 = H3) I3 ⟨1, rfl, -1, rfl, rfl, rfl⟩) fun vs s4 ⟨o, H4, I4, ps, eo, e4⟩ => ?_
  subst eo e4
  have I5 : Inv X pins σ H4 { s4 with heap := s4.heap.push { cls := .type "slice", data := .fields #[vl, vu, vs] } } := I4.kept (t' := s4.toks) fun b ob q => Heap.get?_push_of_some _ q
  show wpAny (model X.prog X.w) X.A (subscriptTail e (.Slice none none (some (.UnaryOp .USub (.Constant (.int 1) k p1) p2)) p3) (.ref a) (.ref s4.heap.objs.size)) (EP X pins σ Q) X.xe { s4 with heap := s4.heap.push { cls := .type "slice", data := .fields #[vl, vu, vs] } }
  rcases q with ⟨hx, q⟩ | ⟨hx, q⟩
  · obtain ⟨its, r, ht, hz⟩ := I5.list hx
    have hlen := r.length
    refine tail_any (ops := [.ref a, .ref s4.heap.objs.size]) ht.isList.typeIs (PySem.slot_list_getitem.lookup) ?_ (by with_unfolding_all rfl)
    refine wpAny_getItem_list_slice ht.isList (Heap.IsSliceOf.new _ vl vu vs) pl pu ps (by decide) ?_ (by rw [List.size_toArray]; omega)
    rw [PySem.W.krv_pick]
    refine ⟨.ref _, _, I5.laid (t' := s4.toks) (o := .lst xs.reverse) (fun b ob q => Heap.get?_push_of_some _ q) (Nat.le_refl _) ?_, rfl, q _ (I5.hok.fresh (Nat.le_refl _))⟩
    exact ⟨by rw [List.length_reverse]; exact hz, _, 0, r.reverse, Heap.get?_push_size _ rfl⟩
  · obtain ⟨its, r, ht, hz⟩ := I5.tuple hx
    have hlen := r.length
    refine tail_any (ops := [.ref a, .ref s4.heap.objs.size]) ht.typeIs (PyProof.Rows.slot_tuple_getitem.lookup) ?_ (by with_unfolding_all rfl)
    refine getItem_tuple_rev ht (Heap.IsSliceOf.new _ vl vu vs) pl pu ps ?_ (by rw [List.size_toArray]; omega)
    exact lay_tup I5 r.reverse (by rw [List.length_reverse]; exact hz) q
/-- what a plain tuple's place holds -/
theorem plain_seq {a : Addr} {xs : List V} {o : Obj} (I : Inv X pins σ H s) (h : H a = some (.frz o (.tup xs))) (p : PlainT o) : ∃ its : List Value, Vals xs its ∧ PlainSeq "tuple" s.heap a its.toArray ∧ xs.length ≤ sizeLine := by
  obtain ⟨e, hz, its, r, o', e', hc, n, hd⟩ := (show ObjOk X.prog X.w H s.heap a (.frz o (.tup xs)) from I.hok a _ h)
  rw [e] at e'
  cases e'
  exact ⟨its, r, ⟨o, n, e, hc, p.2, hd⟩, hz⟩
end
end Ev

end

section
set_option maxHeartbeats 4000000
/-! EvU: dict(tuple of pairs), enumerate(tuple). -/
namespace Ev
open PySem PySem.Spec L2 PyProof.Rows HT
section
variable {X : Cx} {pins : List (Addr × Obj)} {σ : L2.St} {H : Hp} {s : Shared} {Q : VK}
theorem pairs_of2 (I : Inv X pins σ H s) : ∀ {ps : List Addr} {kvs : List (Key × V)}, Paired (fun p kv => SqT X.K H p [kV kv.1, kv.2]) ps kvs →
    ∃ prs : List (Key × Value × Value), KV kvs (prs.map fun p => (p.1, p.2.2)) ∧ prs.length = ps.length ∧ ∀ (j : Nat) (q : Key × Value × Value), prs[j]? = some q → ∃ (b : Addr), ps[j]? = some b ∧ IsTup s.heap b #[q.2.1, q.2.2] ∧ keyIs q.1 q.2.1 = true
  | _, _, .nil => ⟨[], .nil, rfl, fun j q e => by simp at e⟩
  | _, _, .cons (a := p) (b := kv) h t => by
    obtain ⟨prs, r, hl, hp⟩ := pairs_of2 I t
    obtain ⟨its, rv, ht, _⟩ := I.tuple h
    obtain ⟨u, y, ei, ru, ry⟩ := vals2 rv
    subst ei
    refine ⟨(kv.1, u, y) :: prs, .cons ⟨rfl, ry⟩ r, by rw [List.length_cons, List.length_cons, hl], fun j q e => ?_⟩
    cases j with
    | zero =>
      have e' : (kv.1, u, y) = q := Option.some.inj e
      subst e'
      exact ⟨p, rfl, ht, kV_is (P := X.prog) (w := X.w) ru⟩
    | succ j =>
      obtain ⟨b, e1, e2, e3⟩ := hp j q (by simpa using e)
      exact ⟨b, by simpa using e1, e2, e3⟩
/-- dict(t) of a tuple of pairs -/
theorem call_dictF (hcalm : X.calm = true) : CallR X (.type "dict") (fun xs H Q => ∃ (a : Addr) (o : Obj) (ps : List Addr) (kvs : List (Key × V)), xs = [.ref a] ∧ H a = some (.frz o (.tup (ps.map V.ref))) ∧ PlainT o ∧ Paired (fun p kv => SqT X.K H p [kV kv.1, kv.2]) ps kvs ∧
    ∀ p, H p = none → Q (.ref p) (upd H p (.dK (mergeK [] kvs)))) := by
  intro pins s σ H xs us Q I r q
  obtain ⟨a, o, ps, kvs, ex, hq, po, hp, q⟩ := q
  subst ex
  obtain ⟨u, eu, rx⟩ := vals1 r
  subst eu
  cases rx
  obtain ⟨its, rv, pl, hz⟩ := plain_seq I hq po
  have ei := refs_at rv
  subst ei
  rw [List.length_map] at hz
  obtain ⟨prs, rel, hl, hpr⟩ := pairs_of2 I hp
  have hg : ∀ j q, (prs.map (·.2))[j]? = some q → ∃ p : Key × Value × Value, prs[j]? = some p ∧ p.2 = q := fun j q e => by
    rw [List.getElem?_map] at e
    cases h : prs[j]? with
    | none => rw [h] at e; cases e
    | some p => rw [h] at e; exact ⟨p, h, Option.some.inj e⟩
  refine PySem.call_dict_pairs (knd := mixKind X.prog X.w) (kvs := prs.map fun p => (p.1, p.2.2)) (PairArg.tuple (prog := X.prog) (w := X.w) a (ps.map Value.ref).toArray (fun j => ps.getD j 0) (prs.map (·.2))) (I.ok.hd hcalm) ⟨pl, by simp [hl], fun j k v e => ?_⟩ ⟨by simp, fun j k v e => ?_⟩ (by simp [hl]; exact hz) fun h' tk hd' k => ?_
  · obtain ⟨p, e1, e2⟩ := hg j _ e
    obtain ⟨b, e3, e4, e5⟩ := hpr j p e1
    rw [e2] at e4
    have e6 : ps.getD j 0 = b := by rw [List.getD_eq_getElem?_getD, e3]; rfl
    exact ⟨by show _ = some (Value.ref (ps.getD j 0)); rw [e6]; simp [e3], by show PairAt _ (ps.getD j 0) _ _; rw [e6]; exact .inl e4⟩
  · obtain ⟨p, e1, e2⟩ := hg j _ e
    obtain ⟨b, e3, e4, e5⟩ := hpr j p e1
    exact ⟨p.1, by simp [e1, e2], by rw [e2] at e5; exact e5⟩
  · have hm : (s.heap.objs.size == sysModules) = false := beq_eq_false_iff_ne.mpr (Nat.ne_of_gt I.big)
    have hlen : (mergeK [] kvs).length ≤ sizeLine := by
      refine Nat.le_trans (length_mergeK kvs []) ?_
      rw [List.length_nil, Nat.zero_add, rel.length, List.length_map, hl]
      exact hz
    exact ⟨.ref s.heap.objs.size, upd H s.heap.objs.size (.dK (mergeK [] kvs)), I.laid (t' := tk) (fun b o e => k b o (by simp) e) (Nat.le_refl _) (show ObjOk X.prog X.w _ _ _ (.dK (mergeK [] kvs)) from ⟨hlen, hm, merged [] _, KV.merge rel .nil, hd'⟩), rfl, q _ (I.hok.fresh (Nat.le_refl _))⟩
end
section
variable {prog : Program} {w : World} {A : Around} {E : Value → Shared → Prop} {s : Shared}
open AutoSeq1 (wpAny_loadPart')
def itObj (t : Addr) : Obj := { cls := .type "tuple_iterator", data := .fields #[.ref t, .int 0 0] }
def enObj (b : Addr) : Obj := { cls := .type "enumerate", data := .fields #[.none, .bool false, .ref b, rawInt 0, .none, .none] }
theorem new_enumT (l : Addr) (items : Array Value) :
    Meets (Builtin.«enumerate.__new__» ⟨[.type "enumerate", .ref l], []⟩) (fun _ R s => s.heap.IsTuple l items ∧
      R (.ok (.ret (.ref (s.heap.push (itObj l)).objs.size))) { s with heap := (s.heap.push (itObj l)).push (enObj s.heap.objs.size) }) :=
  .of_wp fun prog w A R s h => by
    obtain ⟨hp, g, d, tk, os⟩ := s; obtain ⟨hL, h⟩ := h
    have hsub := sub_enumerate
    wp_walk
    refine wpAny_stack_any fun st => wpAny_pure ?_
    split
    · rename_i c _ _ _ _ _
      cases (c == Value.type "enumerate") <;> (wp_walk using wpAny_pyIter_tuple hL; exact ⟨_, rfl, h⟩)
    · wp_walk using wpAny_pyIter_tuple hL
      exact ⟨_, rfl, h⟩
theorem call_enumT {l : Addr} {items : Array Value} {Q : Value → Shared → Prop} (hL : s.heap.IsTuple l items)
    (h : ∀ h', IsEnum h' (s.heap.objs.size + 1) s.heap.objs.size 0 .none → h'.IsTupleIter s.heap.objs.size l 0 →
      (∀ b o, s.heap.get? b = some o → h'.get? b = some o) → Q (.ref (s.heap.objs.size + 1)) { s with heap := h' }) :
    wpAny (model prog w) A (call (.type "enumerate") [.ref l]) Q E s := by
  refine callType_new F.called_enumerate (by decide) (F.typeCall_enumerate_1 _) (F.newCall_enumerate_1 _) (fun obj => F.args_object_init_2 obj _) F.entry_enumerate_new (new_enumT l items) ⟨hL, ?_⟩
  have hz : (s.heap.push (itObj l)).objs.size = s.heap.objs.size + 1 := Heap.size_push ..
  show _ ∧ _
  rw [hz]
  have he : IsEnum ((s.heap.push (itObj l)).push (enObj s.heap.objs.size)) (s.heap.objs.size + 1) s.heap.objs.size 0 .none := by
    have := Heap.get?_push_size (s.heap.push (itObj l)) (o := enObj s.heap.objs.size) rfl
    rw [hz] at this; exact this
  exact ⟨⟨_, he, rfl⟩, h _ he ⟨itObj l, Heap.get?_push_of_some _ (Heap.get?_push_size _ rfl), rfl, rfl⟩ fun b o x => Heap.get?_push_of_some _ (Heap.get?_push_of_some _ x)⟩
theorem enum_endT {e it l : Addr} {i : Nat} {items : Array Value} {old : Value} {Q : Option Value → Shared → Prop} (hh : A.handled = none) (he : IsEnum s.heap e it i old) (hit : s.heap.IsTupleIter it l i) (hl : s.heap.IsTuple l items) (hx : items[i]? = none)
    (hQ : ∀ h', Heap.ExtBut it s.heap h' → Q none { s with heap := h' }) : wpAny (model prog w) A (pyNext (.ref e)) Q E s := by
  have hT : s.TypeIs (.ref e) "enumerate" := ⟨_, he, rfl⟩
  unfold pyNext
  refine wpAny_bind (wpAny_attempt (wpAny_callSpecial?_slot (name := Str.ofString "__next__") hT F.slot_enumerate_next (wpAny_call_entry F.slot_enumerate_next hT F.entry_enumerate_next ?_ (F.args_enumerate_next_1 _))))
  show wpAny _ _ (field (.ref e) 2 >>= _) _ _ _
  refine wpAny_bind (wpAny_field he rfl (x := .ref it) rfl (wpAny_bind (wpAny_nextOf_tuple_end hh hit hl hx fun h' x he' ⟨o, ho, hc⟩ => ?_)))
  exact wpAny_bind (wpAny_isInstance (T := "StopIteration") (b := true) ⟨o, ho, hc⟩ isSubtype_stop (wpAny_pure (hQ _ he')))
end
/-- enumerate(t) of the tuple at a -/
def IteT (K : PySem.W.Frag) (a : Addr) : L2.It :=
  ⟨fun i H => ∃ (xs : List V) (x : V), SqT K H a xs ∧ xs[i]? = some x, fun i H v H' => ∃ T x, v = .ref T ∧ H T = none ∧ H' = upd H T (.tup [.int (i : Nat), x]) ∧ ∀ xs, SqT K H a xs → xs[i]? = some x, fun i H => ∃ xs : List V, SqT K H a xs ∧ xs.length ≤ i⟩
theorem turn_enumT {P : Program} {w : World} {K : PySem.W.Frag} {elts : List Expr} {kk : Nat} {tpos : Pos} (a e it : Addr) :
    Turn P w K (.Tuple elts kk tpos) (IteT K a) [e, it] e (fun i h => (∃ old, IsEnum h e it ((i : Nat) : Int) old) ∧ h.IsTupleIter it a i ∧ e ≠ it ∧ a ≠ it ∧ a ≠ e) where
  mem := by simp
  obj := fun i h st b hb => by
    obtain ⟨⟨old, he⟩, ⟨o, ho, hc, hd⟩, _⟩ := st
    have e' : b = e ∨ b = it := by simpa using hb
    rcases e' with z | z
    · rw [z]; exact ⟨_, he, fun v q => nomatch q⟩
    · rw [z]; exact ⟨o, ho, fun v q => by rw [hd] at q; cases q⟩
  keep := fun i h h' st k => by
    obtain ⟨⟨old, he⟩, ⟨o, ho, r⟩, hne⟩ := st
    exact ⟨⟨old, k e (by simp) _ he⟩, ⟨o, k it (by simp) o ho, r⟩, hne⟩
  item := by
    intro X hP hw hK hc i pins s σ H E I hf st hg
    subst hP hw hK
    obtain ⟨⟨old, he⟩, hit, hne, hai, hae⟩ := st
    obtain ⟨xs, x, hq, hx⟩ := hg
    obtain ⟨its, rv, p, hz⟩ := I.tuple hq
    obtain ⟨u, hu, ru⟩ := rv.get hx
    have hel : e < s.heap.objs.size := Heap.lt_size he
    have hil : it < s.heap.objs.size := by obtain ⟨_, q, _⟩ := hit; exact Heap.lt_size q
    have hlt : i < its.toArray.size := by
      rw [List.size_toArray]; exact (List.getElem?_eq_some_iff.mp hu).1
    have D := Draws.tuple (prog := X.prog) (w := X.w) (A := X.A.in1) (show X.A.in1.handled = none from I.ok.hd hc) it a hai its.toArray
    refine wpAny_pyNext_enum_itemD D he ⟨hit, p⟩ hlt hne (by simp [hne, Ne.symm hae]) fun y h' tk hP ho hit' hT hsz hk => ?_
    obtain ⟨hit', _⟩ := hit'
    have hy : y = u := by
      have e1 : its.toArray[i]? = some y := by simpa using hP
      have e2 : its.toArray[i]? = some u := by simpa using hu
      rw [e2] at e1
      exact (Option.some.inj e1).symm
    subst hy
    refine ⟨_, rfl, wpAny_letOwnedTupleGo_enum (s := { s with heap := h', toks := tk + 1 }) ho fun h'' he' sb => ?_⟩
    have hT2 : h''.get? s.heap.objs.size = some { cls := .type "tuple", data := .seq #[.int i tk, y] } := (sb.2 _ (Nat.ne_of_gt hel)).trans hT
    have new : ObjOk X.prog X.w (upd H s.heap.objs.size (.tup [.int (i : Nat), x])) h'' s.heap.objs.size (.tup [.int (i : Nat), x]) :=
      ⟨by show 2 ≤ sizeLine; decide, [.int i tk, y], .cons ⟨_, rfl⟩ (.cons ru .nil), ⟨_, hT2, rfl, _, rfl⟩⟩
    have I1 : L2.Inv X pins σ (upd H s.heap.objs.size (.tup [.int (i : Nat), x])) { s with heap := h'', toks := tk + 1 } :=
      I.turnedNew (ch := [e, it]) (fun b ob hb q => (sb.2 b (fun z => hb (by simp [z]))).trans (hk b ob (fun z => hb (by simp [z])) (fun z => hb (by simp [z])) q)) hf (Nat.le_refl _) new
    refine ⟨.ref s.heap.objs.size, _, I1, rfl, ⟨_, x, rfl, I.hok.fresh (Nat.le_refl _), rfl, fun ys hy => by rw [I.tuple_inj hy hq]; exact hx⟩, ⟨⟨y, ?_⟩, ?_, hne, hai, hae⟩, fun b hb => ?_⟩
    · have e1 : ((i + 1 : Nat) : Int) = (i : Int) + 1 := by omega
      rw [e1]; exact he'
    · obtain ⟨o, ho', r⟩ := hit'
      exact ⟨o, (sb.2 it (Ne.symm hne)).trans ho', r⟩
    · have hb' : b < s.heap.objs.size := by
        have e' : b = e ∨ b = it := by simpa using hb
        rcases e' with z | z
        · rw [z]; exact hel
        · rw [z]; exact hil
      rw [upd_ne (Nat.ne_of_lt hb')]
      exact (hf b hb).1
  done := by
    intro X hP hw hK hc i pins s σ H E I hf st hg
    subst hP hw hK
    obtain ⟨⟨old, he⟩, hit, hne, hai, hae⟩ := st
    obtain ⟨xs, hq, hx⟩ := hg
    obtain ⟨its, rv, p, hz⟩ := I.tuple hq
    obtain ⟨f0, f1, f2, f3, f4, f5⟩ := hf it (by simp)
    have hl := rv.length
    refine enum_endT (I.ok.hd hc) he hit p (by simp; omega) fun h' eb => ⟨rfl, I.turned (t' := s.toks) (fun b o hb q => eb b o hb q) f0 f1 f3 f4 f5⟩
  self := fun A i s Q E st h => let ⟨⟨_, he⟩, _⟩ := st; wpAny_pyIter_enum he h
/-- enumerate(xs): a list or a tuple -/
def iEnumF (K : PySem.W.Frag) (ta : TA) : TI := fun σ H R => ta σ H fun vs H1 => ∃ a xs, vs = [.ref a] ∧ ((SqL K H1 a xs ∧ R (Ite K a) H1) ∨ (SqT K H1 a xs ∧ R (IteT K a) H1))
theorem pi_enumF {X : Cx} {e : Expr} {ta : TA} {p pos tpos : Pos} {elts : List Expr} {kk : Nat} (hg : Gl X "enumerate") (hm : X.mg "enumerate" = none) (ha : PA X [e] ta) (hs : starEach [e] X.env = [(false, eval e X.env)]) :
    PI X (.Tuple elts kk tpos) (.Call (.Name "enumerate" p) [e] [] pos) (iEnumF X.K ta) := by
  refine ⟨fun pins s σ H R I h => ?_⟩
  refine Call_ (ld_blt I hg hm boot_enumerate (PyProof.Rows.callWith_type1 (thn (ha.run pos pins s σ H _ I h) fun us s1 ⟨vs, H1, I1, r1, q1⟩ => ?_) hs rfl))
  obtain ⟨a, xs, ex, hq⟩ := q1
  subst ex
  cases r1 with
  | cons r rr =>
    cases rr
    cases r
    have ap : ∀ b, b = s1.heap.objs.size + 1 ∨ b = s1.heap.objs.size → s1.heap.objs.size ≤ b := fun b e' => by
      rcases e' with z | z <;> (rw [z]; omega)
    rcases hq with ⟨hq, q⟩ | ⟨hq, q⟩
    · obtain ⟨its, rv, p', hz⟩ := I1.list hq
      refine call_enumerate_list p'.isList fun h' he hit hsz hk => wpAny_pyIter_enum he ?_
      have I2 : L2.Inv X pins σ H1 { s1 with heap := h' } := I1.kept (t' := s1.toks) hk
      refine ⟨s1.heap.objs.size + 1, [s1.heap.objs.size + 1, s1.heap.objs.size], _, _, H1, rfl, I2, turn_enum a (s1.heap.objs.size + 1) s1.heap.objs.size, ⟨⟨.none, he⟩, hit, Nat.succ_ne_self _⟩, fun b hb => ?_, q⟩
      have hle := ap b (by simpa using hb)
      exact I1.fpOk hle (I1.hok.fresh hle)
    · obtain ⟨its, rv, p', hz⟩ := I1.tuple hq
      refine call_enumT p' fun h' he hit hk => wpAny_pyIter_enum he ?_
      have I2 : L2.Inv X pins σ H1 { s1 with heap := h' } := I1.kept (t' := s1.toks) hk
      have hal : a < s1.heap.objs.size := p'.lt
      refine ⟨s1.heap.objs.size + 1, [s1.heap.objs.size + 1, s1.heap.objs.size], _, _, H1, rfl, I2, turn_enumT a (s1.heap.objs.size + 1) s1.heap.objs.size, ⟨⟨.none, he⟩, hit, Nat.succ_ne_self _, Nat.ne_of_lt hal, Nat.ne_of_lt (Nat.lt_succ_of_lt hal)⟩, fun b hb => ?_, q⟩
      have hle := ap b (by simpa using hb)
      exact I1.fpOk hle (I1.hok.fresh hle)
end Ev

end

section
/-! Ev0: a small reckoner of the part of Python that the laws use; values without addresses. -/
namespace Ev
open PySem

inductive Val where
  | non | bl (b : Bool) | int (i : Int) | str (x : Str) | tup (xs : List Val) | loc (n : Nat) | scr | ty (n : String)
  deriving Inhabited

mutual
def Val.dec : (a b : Val) → Decidable (a = b)
  | .non, b => by cases b <;> first | exact .isTrue rfl | exact .isFalse (fun h => nomatch h)
  | .scr, b => by cases b <;> first | exact .isTrue rfl | exact .isFalse (fun h => nomatch h)
  | .bl x, b => by
    cases b with
    | bl y => exact if h : x = y then .isTrue (by rw [h]) else .isFalse (fun e => h (Val.bl.inj e))
    | _ => exact .isFalse (fun h => nomatch h)
  | .int x, b => by
    cases b with
    | int y => exact if h : x = y then .isTrue (by rw [h]) else .isFalse (fun e => h (Val.int.inj e))
    | _ => exact .isFalse (fun h => nomatch h)
  | .str x, b => by
    cases b with
    | str y => exact if h : x = y then .isTrue (by rw [h]) else .isFalse (fun e => h (Val.str.inj e))
    | _ => exact .isFalse (fun h => nomatch h)
  | .loc x, b => by
    cases b with
    | loc y => exact if h : x = y then .isTrue (by rw [h]) else .isFalse (fun e => h (Val.loc.inj e))
    | _ => exact .isFalse (fun h => nomatch h)
  | .ty x, b => by
    cases b with
    | ty y => exact if h : x = y then .isTrue (by rw [h]) else .isFalse (fun e => h (Val.ty.inj e))
    | _ => exact .isFalse (fun h => nomatch h)
  | .tup xs, b => by
    cases b with
    | tup ys => exact match Val.decs xs ys with
      | .isTrue h => .isTrue (by rw [h])
      | .isFalse h => .isFalse (fun e => h (Val.tup.inj e))
    | _ => exact .isFalse (fun h => nomatch h)
def Val.decs : (a b : List Val) → Decidable (a = b)
  | [], [] => .isTrue rfl
  | [], _ :: _ => .isFalse (fun h => nomatch h)
  | _ :: _, [] => .isFalse (fun h => nomatch h)
  | x :: xs, y :: ys => match Val.dec x y, Val.decs xs ys with
    | .isTrue h1, .isTrue h2 => .isTrue (by rw [h1, h2])
    | .isFalse h, _ => .isFalse (fun e => h (List.cons.inj e).1)
    | _, .isFalse h => .isFalse (fun e => h (List.cons.inj e).2)
end
instance : DecidableEq Val := Val.dec

/-- what stands at a place of the store -/
inductive Ob where
  | lst (xs : List Val)
  | dic (kvs : List (L2.Key × Val))
  deriving DecidableEq, Inhabited
abbrev Sto := List Ob

inductive Out (α : Type) where
  | ok (a : α) (S : Sto)
  | exc (c : Str) (fs : List (Str × Val)) (S : Sto)
  | bad

def M (α : Type) := Sto → Out α
def M.pure {α : Type} (a : α) : M α := fun S => .ok a S
def M.bind {α β : Type} (m : M α) (f : α → M β) : M β := fun S => match m S with
  | .ok a S' => f a S'
  | .exc c fs S' => .exc c fs S'
  | .bad => .bad
instance : Monad M where
  pure := M.pure
  bind := M.bind
def bad {α : Type} : M α := fun _ => .bad
def get : M Sto := fun S => .ok S S
def opt {α : Type} : Option α → M α
  | some a => pure a
  | none => bad
def alloc (o : Ob) : M Val := fun S => .ok (.loc S.length) (S ++ [o])
/-- the object at n is put anew -/
def put (n : Nat) (o : Ob) : M Unit := fun S => if n < S.length then .ok () (S.set n o) else .bad
def guard' (b : Bool) : M Unit := if b then pure () else bad

abbrev Env := List (Option Val)

mutual
inductive Tg where
  | nam (i : Nat)
  | tup (ts : Tgs)
inductive Tgs where
  | nil
  | cons (t : Tg) (ts : Tgs)
end

mutual
inductive Ex where
  | var (i : Nat)
  | non | bl (b : Bool) | int (i : Int) | str (x : Str)
  | ty (n : String)
  | glo (x : Str)
  | bin (op : Operator) (a b : Ex)
  | neg (a : Ex)
  | not (a : Ex)
  | cmp (op : CmpOp) (a b : Ex)
  | chn (op op' : CmpOp) (a b c : Ex)
  | and (a b : Ex)
  | or (a b : Ex)
  | ite (c a b : Ex)
  | tup (es : Exs)
  | lst (es : Exs)
  | dic
  | call (f : Str) (es : Exs)
  | bi (f : String) (es : Exs)
  | sq (f : String) (e : Ex)
  | met (o : Ex) (m : String) (es : Exs)
  | ext (o e : Ex)
  | idx (a i : Ex)
  | sli (a lo hi : Ex)
  | rev (a : Ex)
  | com (vs : List Nat) (tg : Tg) (it : It) (c e : Ex)
inductive Exs where
  | nil
  | cons (e : Ex) (es : Exs)
/-- what is walked -/
inductive It where
  | seq (e : Ex)
  | rng1 (a : Ex)
  | rng2 (a b : Ex)
  | zip (a b : Ex)
  | enum (a : Ex)
end

mutual
inductive Sx where
  | expr (e : Ex)
  | ret (e : Ex)
  | ifs (c : Ex) (a b : Sxs)
  | set (tg : Tg) (e : Ex)
  | sub (o i e : Ex)
  | aug (i : Nat) (op : Operator) (e : Ex)
  | augs (o i : Ex) (op : Operator) (e : Ex)
  | for_ (tg : Tg) (it : It) (b : Sxs)
  | whl (c : Ex) (b : Sxs)
  | pass | brk | cnt
inductive Sxs where
  | nil
  | cons (s : Sx) (ss : Sxs)
end

/-! ### values -/
/-- the data of a value, fuel deep at most -/
def deep : Nat → Sto → Val → Option PyData
  | _, _, .non => some .none
  | _, _, .bl b => some (.bool b)
  | _, _, .int i => some (.int i)
  | _, _, .str x => some (.str x)
  | n + 1, S, .tup xs => (xs.mapM (deep n S)).map .tuple
  | n + 1, S, .loc a => match S[a]? with
    | some (.lst xs) => (xs.mapM (deep n S)).map .list
    | _ => none
  | _, _, _ => none
def deepFuel : Nat := 70
@[irreducible] def dat (S : Sto) (v : Val) : Option PyData := deep deepFuel S v

/-- a number: an int or a truth -/
def num? : Val → Option Int
  | .int i => some i
  | .bl b => some (if b then 1 else 0)
  | _ => none

/-- the items of a sequence; true: a list -/
def seqOf (S : Sto) : Val → Option (Bool × List Val)
  | .tup xs => some (false, xs)
  | .loc n => match S[n]? with
    | some (.lst xs) => some (true, xs)
    | _ => none
  | _ => none

def truth (S : Sto) : Val → Option Bool
  | .non => some false
  | .bl b => some b
  | .int i => some (i != 0)
  | .str x => if x.length ≤ sizeLine then some (x.length != 0) else none
  | .tup xs => some (!xs.isEmpty)
  | .loc n => match S[n]? with
    | some (.lst xs) => some (!xs.isEmpty)
    | some (.dic kvs) => some (!kvs.isEmpty)
    | none => none
  | _ => none
def tru (v : Val) : M Bool := fun S => match truth S v with
  | some b => .ok b S
  | none => .bad

def keyOf : Val → Option L2.Key
  | .int i => some (.inl i)
  | .str x => some (.inr x)
  | _ => none
def dicGet (kvs : List (L2.Key × Val)) (k : L2.Key) : Option Val := (kvs.find? fun p => decide (p.1 = k)).map (·.2)
def dicPut (kvs : List (L2.Key × Val)) (k : L2.Key) (v : Val) : List (L2.Key × Val) :=
  if (kvs.any fun kv => decide (kv.1 = k)) = true then kvs.map (fun kv => if kv.1 = k then (kv.1, v) else kv) else kvs ++ [(k, v)]

def mulOk (i j : Int) : Bool := decide (i.natAbs.log2 + j.natAbs.log2 < 1000000)
def divOk (j : Int) : Bool := decide (0 < j) && decide (j.natAbs.log2 < 9000)
def powOk (i j : Int) : Bool := decide (0 ≤ j) && decide (j ≤ 1000000) && decide (i.natAbs < 2 ^ 64)

/-- two numbers, a truth among them perhaps -/
def num2 (f : Int → Int → Option Int) (a b : Val) : M Val := match num? a, num? b with
  | some i, some j => (match f i j with | some k => pure (.int k) | none => bad)
  | _, _ => bad
def addV (a b : Val) : M Val := match a, b with
  | .str x, .str y => if x.length + y.length ≤ sizeLine then pure (.str (x ++ y)) else bad
  | .tup xs, .tup ys => if xs.length + ys.length ≤ sizeLine then pure (.tup (xs ++ ys)) else bad
  | .loc n, .loc m => fun S => match S[n]?, S[m]? with
    | some (.lst xs), some (.lst ys) => if xs.length + ys.length ≤ sizeLine then alloc (.lst (xs ++ ys)) S else .bad
    | _, _ => .bad
  | a, b => num2 (fun i j => some (i + j)) a b
def mulV (a b : Val) : M Val := match a, b with
  | .loc n, .int k => fun S => match S[n]? with
    | some (.lst xs) => if xs.length * k.toNat ≤ sizeLine ∧ -(2 ^ 63) ≤ k ∧ k < 2 ^ 63 then alloc (.lst (List.replicate k.toNat xs).flatten) S else .bad
    | _ => .bad
  | a, b => num2 (fun i j => if mulOk i j then some (i * j) else none) a b
/-- a op b -/
def binV (op : Operator) (a b : Val) : M Val := match op with
  | .Add => addV a b
  | .Sub => num2 (fun i j => some (i - j)) a b
  | .Mult => mulV a b
  | .FloorDiv => (match a, b with | .int i, .int j => if divOk j then pure (.int (i / j)) else bad | _, _ => bad)
  | .Mod => (match a, b with | .int i, .int j => if 0 < j then pure (.int (i % j)) else bad | _, _ => bad)
  | .Pow => (match a, b with | .int i, .int j => if powOk i j then pure (.int (i ^ j.toNat)) else bad | _, _ => bad)
  | _ => bad

/-- == by the data -/
def eqDat (d e : Option PyData) : Option Bool := match d, e with
  | some d, some e => if SeqAt.shaped d && SeqAt.shaped e then some (PyData.eqv d e) else none
  | _, _ => none
/-- == -/
def eqVal (S : Sto) (a b : Val) : Option Bool := match a, b with
  | .non, .non => some true
  | .int i, .int j => some (decide (i = j))
  | .bl i, .bl j => some (decide (i = j))
  | .str i, .str j => some (decide (i = j))
  | a, b => eqDat (dat S a) (dat S b)

/-- the order of codes -/
def ltStr (x y : Str) : Bool := decide (x.cps.toList < y.cps.toList)

/-- a < b of numbers, texts -/
def ltVal (a b : Val) : Option Bool := match a, b with
  | .str x, .str y => some (ltStr x y)
  | .int i, .int j => some (decide (i < j))
  | _, _ => none

def inStr (x y : Str) : Bool := !(Builtin.Str.occurrences y x 0 y.length 1).isEmpty

/-- x in a row, by the data -/
def inRow (d : Option PyData) (ds : Option PyData) : Option Bool := match d, ds with
  | some d, some (.tuple ds) => if SeqAt.shaped d && SeqAt.shaped (.tuple ds) then some (ds.any fun z => PyData.eqv z d) else none
  | some d, some (.list ds) => if SeqAt.shaped d && SeqAt.shaped (.list ds) then some (ds.any fun z => PyData.eqv z d) else none
  | _, _ => none
/-- x in y -/
def inVal (S : Sto) (x y : Val) : Option Bool := match y with
  | .str b => (match x with | .str a => some (inStr a b) | _ => none)
  | .tup ys => inRow (dat S x) (dat S (.tup ys))
  | .loc n => (match S[n]? with
    | some (.dic kvs) => (keyOf x).map fun k => (dicGet kvs k).isSome
    | _ => inRow (dat S x) (dat S (.loc n)))
  | _ => none

def cmpVal (S : Sto) (op : CmpOp) (a b : Val) : Option Bool := match op with
  | .Eq => eqVal S a b
  | .NotEq => (eqVal S a b).map (!·)
  | .Lt => ltVal a b
  | .Gt => ltVal b a
  | .LtE => (ltVal b a).map (!·)
  | .GtE => (ltVal a b).map (!·)
  | .In => inVal S a b
  | .NotIn => (inVal S a b).map (!·)
  | .Is => match b with
    | .non => some (decide (a = .non))
    | .bl c => some (decide (a = .bl c))
    | _ => none
  | .IsNot => match b with
    | .non => some (!decide (a = .non))
    | .bl c => some (!decide (a = .bl c))
    | _ => none
def cmpV (op : CmpOp) (a b : Val) : M Val := fun S => match cmpVal S op a b with
  | some c => .ok (.bl c) S
  | none => .bad

/-- a[i] -/
def idxV (a i : Val) : M Val := fun S => match a, i with
  | .str x, .int k => if x.length ≤ sizeLine then (match L2.atI x.cps.toList k with | some c => .ok (.str ⟨#[c]⟩) S | none => .bad) else .bad
  | .tup xs, .int k => match L2.atI xs k with | some v => .ok v S | none => .bad
  | .loc n, k => match S[n]?, k with
    | some (.lst xs), .int k => (match L2.atI xs k with | some v => .ok v S | none => .bad)
    | some (.dic kvs), k => (match keyOf k with | some k => (match dicGet kvs k with | some v => .ok v S | none => .bad) | none => .bad)
    | _, _ => .bad
  | _, _ => .bad

/-- an end of a slice -/
def endOf (absent : Bool) (v : Val) : Option (Option Int) := if absent then some none else match v with
  | .int i => some (some i)
  | _ => none
def isNon : Ex → Bool
  | .non => true
  | _ => false
def cut {α : Type} (xs : List α) (lo hi : Option Int) : List α := (xs.drop (HT.sIx xs.length 0 lo)).take (HT.sIx xs.length xs.length hi - HT.sIx xs.length 0 lo)

/-- a[lo:hi] -/
def sliV (scr : List Int) (a : Val) (l h : Option Int) : M Val := match a with
  | .str x => if x.length ≤ sizeLine then pure (.str ⟨(cut x.cps.toList l h).toArray⟩) else bad
  | .tup xs => pure (.tup (cut xs l h))
  | .loc n => fun S => (match S[n]? with
    | some (.lst xs) => alloc (.lst (cut xs l h)) S
    | _ => .bad)
  | .scr => alloc (.lst (cut (scr.map .int) l h))
  | _ => bad

def setV (a i v : Val) : M Unit := fun S => match a with
  | .loc n => match S[n]? with
    | some (.lst xs) => (match i with
      | .int k => (match L2.ixN xs.length k with | some j => .ok () (S.set n (.lst (xs.set j v))) | none => .bad)
      | _ => .bad)
    | some (.dic kvs) => (match keyOf i with | some k => if kvs.length < sizeLine then .ok () (S.set n (.dic (dicPut kvs k v))) else .bad | none => .bad)
    | none => .bad
  | _ => .bad

mutual
def asg : Tg → Val → Env → Option Env
  | .nam i, v, ρ => if i < ρ.length then some (ρ.set i (some v)) else none
  | .tup ts, v, ρ => match v with
    | .tup xs => asgs ts xs ρ
    | _ => none
def asgs : Tgs → List Val → Env → Option Env
  | .nil, xs, ρ => match xs with
    | [] => some ρ
    | _ => none
  | .cons t ts, xs, ρ => match xs with
    | [] => none
    | x :: xs => match asg t x ρ with
      | some ρ' => asgs ts xs ρ'
      | none => none
end

def tyName (S : Sto) : Val → Option String
  | .non => some "NoneType"
  | .bl _ => some "bool"
  | .int _ => some "int"
  | .str _ => some "str"
  | .tup _ => some "tuple"
  | .loc n => match S[n]? with
    | some (.lst _) => some "list"
    | some (.dic _) => some "dict"
    | none => none
  | .scr => some "list"
  | _ => none
/-- is a thing of the type a one of b -/
def isTy (a b : String) : Option Bool := L2.kitB a b
def isTys (a : String) : List Val → Option Bool
  | [] => some false
  | .ty b :: r => match isTy a b, isTys a r with
    | some c, some d => some (c || d)
    | _, _ => none
  | _ => none

structure Ctx where
  call : Str → List Val → M Val
  glo : Str → Option Val
  scr : List Int
  gas : Nat

/-- calls of built-ins by values -/
def lenV (vs : List Val) : M Val := fun S => match vs with
  | [.str x] => if x.length ≤ sizeLine then .ok (.int x.length) S else .bad
  | [.tup xs] => .ok (.int xs.length) S
  | [.loc n] => (match S[n]? with
    | some (.lst xs) => .ok (.int xs.length) S
    | some (.dic kvs) => .ok (.int kvs.length) S
    | none => .bad)
  | _ => .bad
def isiV (vs : List Val) : M Val := fun S => match vs with
  | [v, c] => (match tyName S v with
    | some a => (match c with
      | .ty b => (match isTy a b with | some c => .ok (.bl c) S | none => .bad)
      | .tup bs => (match isTys a bs with | some c => .ok (.bl c) S | none => .bad)
      | _ => .bad)
    | none => .bad)
  | _ => .bad
def absV (vs : List Val) : M Val := match vs with
  | [.int i] => pure (.int (if i < 0 then -i else i))
  | _ => bad
def minV (vs : List Val) : M Val := match vs with
  | [.int i, .int j] => pure (.int (if j < i then j else i))
  | _ => bad
def maxV (vs : List Val) : M Val := match vs with
  | [.int i, .int j] => pure (.int (if j > i then j else i))
  | _ => bad
def intV (vs : List Val) : M Val := match vs with
  | [.int i] => pure (.int i)
  | [.bl b] => pure (.int (if b then 1 else 0))
  | _ => bad
def strV (vs : List Val) : M Val := match vs with
  | [.int i] => if i.natAbs.log2 < 1920 then pure (.str (toString i)) else bad
  | _ => bad
def reprV (vs : List Val) : M Val := fun S => match vs with
  | [v] => (match dat S v with
    | some d => if d.showable && decide (d.shown.length ≤ sizeLine) && decide (d.depth ≤ 64) then .ok (.str d.shown) S else .bad
    | none => .bad)
  | _ => .bad
def biV (f : String) (vs : List Val) : M Val :=
  if f = "len" then lenV vs else if f = "isinstance" then isiV vs else if f = "repr" then reprV vs else if f = "abs" then absV vs
  else if f = "min" then minV vs else if f = "max" then maxV vs else if f = "int" then intV vs else if f = "str" then strV vs else bad

/-- all ints, all truths of a row -/
def intsOf : List Val → Option (List Int)
  | [] => some []
  | .int i :: r => (intsOf r).map (i :: ·)
  | _ => none
def bolsOf : List Val → Option (List Bool)
  | [] => some []
  | .bl i :: r => (bolsOf r).map (i :: ·)
  | _ => none

/-- all pairs of a key and a value -/
def pairsOf : List Val → Option (List (L2.Key × Val))
  | [] => some []
  | .tup [k, v] :: r => (match keyOf k with | some k => (pairsOf r).map ((k, v) :: ·) | none => none)
  | _ => none
def dicOf (ps : List (L2.Key × Val)) : List (L2.Key × Val) := ps.foldl (fun d p => dicPut d p.1 p.2) []

/-- built-ins of one sequence, of which a list that is new is let go -/
def sqV (f : String) (k : Bool) (xs : List Val) : M Val :=
  if f = "tuple" then pure (.tup xs) else if f = "list" then alloc (.lst xs)
  else if f = "all" then (if k then (match bolsOf xs with | some bs => pure (.bl (bs.all id)) | none => bad) else bad)
  else if f = "any" then (if k then (match bolsOf xs with | some bs => pure (.bl (bs.any id)) | none => bad) else bad)
  else if f = "sum" then (if k then (match intsOf xs with | some ns => pure (.int ns.sum) | none => bad) else bad)
  else if f = "dict" then (match pairsOf xs with | some ps => alloc (.dic (dicOf ps)) | none => bad)
  else bad

/-- methods by values -/
def appV (o : Val) (vs : List Val) : M Val := fun S => match o, vs with
  | .loc n, [v] => (match S[n]? with
    | some (.lst xs) => if xs.length < sizeLine then .ok .non (S.set n (.lst (xs ++ [v]))) else .bad
    | _ => .bad)
  | _, _ => .bad
def popV (o : Val) (vs : List Val) : M Val := fun S => match o, vs with
  | .loc n, [] => (match S[n]? with
    | some (.lst xs) => (match xs[xs.length - 1]? with
      | some y => .ok y (S.set n (.lst xs.dropLast))
      | none => .bad)
    | _ => .bad)
  | _, _ => .bad
def indexV (o : Val) (vs : List Val) : M Val := match o, vs with
  | .str x, [.str y] => (match Builtin.Str.occurrences x y 0 x.length 1 with
    | i :: _ => pure (.int (i : Nat))
    | [] => bad)
  | _, _ => bad
def getV (o : Val) (vs : List Val) : M Val := fun S => match o, vs with
  | .loc n, [k, d] => (match S[n]?, keyOf k with
    | some (.dic kvs), some k => .ok ((dicGet kvs k).getD d) S
    | _, _ => .bad)
  | _, _ => .bad
/-- how often a thing stands in a row, by the data -/
def cntL (o : Val) (vs : List Val) : M Val := fun S => match vs with
  | [v] => (match dat S v, dat S o with
    | some d, some (.list ds) => if SeqAt.shaped d && SeqAt.shaped (.list ds) then .ok (.int ((ds.countP fun z => PyData.eqv z d : Nat))) S else .bad
    | _, _ => .bad)
  | _ => .bad
def cntT (o : Val) (vs : List Val) : M Val := fun S => match vs with
  | [v] => (match dat S v, dat S o with
    | some d, some (.tuple ds) => if SeqAt.shaped d && SeqAt.shaped (.tuple ds) then .ok (.int ((ds.countP fun z => PyData.eqv z d : Nat))) S else .bad
    | _, _ => .bad)
  | _ => .bad
def insV (o : Val) (vs : List Val) : M Val := fun S => match o, vs with
  | .loc n, [.int i, v] => (match S[n]? with
    | some (.lst xs) => if xs.length < sizeLine ∧ 0 ≤ i ∧ i < 2 ^ 63 then .ok .non (S.set n (.lst (xs.take i.toNat ++ [v] ++ xs.drop i.toNat))) else .bad
    | _ => .bad)
  | _, _ => .bad
/-- the method m of the type T -/
def metV (T m : String) (o : Val) (vs : List Val) : M Val :=
  if T = "list" ∧ m = "append" then appV o vs else if T = "list" ∧ m = "pop" then popV o vs else if T = "str" ∧ m = "index" then indexV o vs
  else if T = "dict" ∧ m = "get" then getV o vs else if T = "list" ∧ m = "count" then cntL o vs else if T = "tuple" ∧ m = "count" then cntT o vs
  else if T = "list" ∧ m = "insert" then insV o vs else bad
def tyM (x : Val) : M String := fun S => match tyName S x with
  | some T => .ok T S
  | none => .bad
def extV (o : Val) (ys : List Val) : M Val := fun S => match o with
  | .loc n => (match S[n]? with
    | some (.lst xs) => if xs.length + ys.length ≤ sizeLine then .ok .non (S.set n (.lst (xs ++ ys))) else .bad
    | _ => .bad)
  | _ => .bad

/-- what is walked: the items, and the lists of the store that have to stand still -/
structure Walk where
  xs : List Val
  held : List (Nat × List Val)
def held1 (v : Val) (xs : List Val) : List (Nat × List Val) := match v with
  | .loc n => [(n, xs)]
  | _ => []
def still (h : List (Nat × List Val)) : M Unit := fun S => if h.all (fun p => decide (S[p.1]? = some (.lst p.2))) then .ok () S else .bad
def rng (lo hi : Int) : List Val := (List.range (hi - lo).toNat).map fun k => .int (lo + (k : Nat))
def rngOk (i : Int) : Bool := decide (-(2 ^ 62) ≤ i) && decide (i < 2 ^ 62)
/-- a row of signs -/
def signs (x : Str) : List Val := x.cps.toList.map fun c => .str ⟨#[c]⟩
def walkV (v : Val) : M Walk := fun S => match v with
  | .str x => .ok ⟨signs x, []⟩ S
  | v => match seqOf S v with
    | some (_, xs) => .ok ⟨xs, held1 v xs⟩ S
    | none => .bad

def wipe (ρ : Env) : List Nat → Env
  | [] => ρ
  | v :: vs => (wipe ρ vs).set v none

/-- one turn after another of a comprehension -/
def comLoop (w : Walk) (turn : Val → M (Option Val)) : List Val → M (List Val)
  | [] => do still w.held; pure []
  | x :: xs => do
    still w.held
    let r ← turn x
    let rest ← comLoop w turn xs
    match r with
    | some y => pure (y :: rest)
    | none => pure rest

/-- an expression's value; as a test; as a sequence that is let go behind its use -/
structure Res where
  v : M Val
  t : M Bool
  q : M (Bool × List Val)
def seqM (x : Val) : M (Bool × List Val) := fun S => match seqOf S x with
  | some q => .ok q S
  | none => .bad
def Res.of (m : M Val) : Res := ⟨m, m >>= tru, m >>= seqM⟩
def zipM (x y : Val) : M Walk := fun S => match seqOf S x, seqOf S y with
  | some (k, xs), some (k', ys) => if k = k' then .ok ⟨(xs.zip ys).map fun p => .tup [p.1, p.2], held1 x xs ++ held1 y ys⟩ S else .bad
  | _, _ => .bad
def enumM (x : Val) : M Walk := fun S => match seqOf S x with
  | some (_, xs) => .ok ⟨xs.zipIdx.map fun p => .tup [.int (p.2 : Nat), p.1], held1 x xs⟩ S
  | _ => .bad
def rng1M (x : Val) : M Walk := match x with
  | .int i => if rngOk i then pure ⟨rng 0 i, []⟩ else bad
  | _ => bad
def rng2M (x y : Val) : M Walk := match x, y with
  | .int i, .int j => if rngOk i && rngOk j then pure ⟨rng i j, []⟩ else bad
  | _, _ => bad
def negM (x : Val) : M Val := match num? x with
  | some i => pure (.int (-i))
  | none => bad
def varM (ρ : Env) (i : Nat) : M Val := match ρ[i]? with
  | some (some v) => pure v
  | _ => bad
def sliM (scr : List Int) (nl nh : Bool) (x l h : Val) : M Val := match endOf nl l, endOf nh h with
  | some l, some h => sliV scr x l h
  | _, _ => bad

mutual
def ev (C : Ctx) : Ex → Env → Res
  | .var i, ρ => .of (varM ρ i)
  | .non, _ => .of (pure .non)
  | .bl b, _ => .of (pure (.bl b))
  | .int i, _ => .of (pure (.int i))
  | .str x, _ => .of (pure (.str x))
  | .ty n, _ => .of (pure (.ty n))
  | .glo x, _ => .of (opt (C.glo x))
  | .bin op a b, ρ => .of (do
    let x ← (ev C a ρ).v
    let y ← (ev C b ρ).v
    binV op x y)
  | .neg a, ρ => .of (do
    let x ← (ev C a ρ).v
    negM x)
  | .not a, ρ => { Res.of (do
    let x ← (ev C a ρ).v
    let t ← tru x
    pure (.bl (!t))) with
    t := do
      let t ← (ev C a ρ).t
      pure (!t) }
  | .cmp op a b, ρ => .of (do
    let x ← (ev C a ρ).v
    let y ← (ev C b ρ).v
    cmpV op x y)
  | .chn op op' a b c, ρ => .of (do
    let x ← (ev C a ρ).v
    let y ← (ev C b ρ).v
    let z ← cmpV op x y
    let t ← tru z
    if t then do
      let w ← (ev C c ρ).v
      cmpV op' y w
    else pure z)
  | .and a b, ρ => { Res.of (do
    let x ← (ev C a ρ).v
    let t ← tru x
    if t then (ev C b ρ).v else pure x) with
    t := do
      let t ← (ev C a ρ).t
      if t then (ev C b ρ).t else pure false }
  | .or a b, ρ => { Res.of (do
    let x ← (ev C a ρ).v
    let t ← tru x
    if t then pure x else (ev C b ρ).v) with
    t := do
      let t ← (ev C a ρ).t
      if t then pure true else (ev C b ρ).t }
  | .ite c a b, ρ => { Res.of (do
    let t ← (ev C c ρ).t
    if t then (ev C a ρ).v else (ev C b ρ).v) with
    t := do
      let t ← (ev C c ρ).t
      if t then (ev C a ρ).t else (ev C b ρ).t }
  | .tup es, ρ => .of (do
    let xs ← evEs C es ρ
    pure (.tup xs))
  | .lst es, ρ => { Res.of (do
    let xs ← evEs C es ρ
    alloc (.lst xs)) with
    q := do
      let xs ← evEs C es ρ
      pure (true, xs) }
  | .dic, _ => .of (alloc (.dic []))
  | .call f es, ρ => .of (do
    let xs ← evEs C es ρ
    C.call f xs)
  | .sq f e, ρ => .of (do
    let q ← (ev C e ρ).q
    sqV f q.1 q.2)
  | .bi f es, ρ => .of (do
    let xs ← evEs C es ρ
    biV f xs)
  | .ext o e, ρ => .of (do
    let x ← (ev C o ρ).v
    let T ← tyM x
    let q ← (ev C e ρ).q
    if T = "list" ∧ q.1 = true then extV x q.2 else bad)
  | .met o m es, ρ => .of (do
    let x ← (ev C o ρ).v
    let T ← tyM x
    let xs ← evEs C es ρ
    metV T m x xs)
  | .idx a i, ρ => .of (do
    let x ← (ev C a ρ).v
    let y ← (ev C i ρ).v
    idxV x y)
  | .sli a lo hi, ρ => .of (do
    let x ← (ev C a ρ).v
    let l ← (ev C lo ρ).v
    let h ← (ev C hi ρ).v
    sliM C.scr (isNon lo) (isNon hi) x l h)
  | .rev a, ρ => .of (do
    let q ← (ev C a ρ).q
    if q.1 then alloc (.lst q.2.reverse) else pure (.tup q.2.reverse))
  | .com vs tg it c e, ρ => { Res.of (do
    let w ← evI C it ρ
    guard' (decide (w.xs.length ≤ sizeLine))
    let ys ← comLoop w (fun x => do
      let ρ' ← opt (asg tg x (wipe ρ vs))
      let t ← (ev C c ρ').t
      if t then do
        let y ← (ev C e ρ').v
        pure (some y)
      else pure none) w.xs
    alloc (.lst ys)) with
    q := do
      let w ← evI C it ρ
      guard' (decide (w.xs.length ≤ sizeLine))
      let ys ← comLoop w (fun x => do
        let ρ' ← opt (asg tg x (wipe ρ vs))
        let t ← (ev C c ρ').t
        if t then do
          let y ← (ev C e ρ').v
          pure (some y)
        else pure none) w.xs
      pure (true, ys) }
def evEs (C : Ctx) : Exs → Env → M (List Val)
  | .nil, _ => pure []
  | .cons e es, ρ => do
    let x ← (ev C e ρ).v
    let xs ← evEs C es ρ
    pure (x :: xs)
def evI (C : Ctx) : It → Env → M Walk
  | .seq e, ρ => do
    let x ← (ev C e ρ).v
    walkV x
  | .rng1 a, ρ => do
    let x ← (ev C a ρ).v
    rng1M x
  | .rng2 a b, ρ => do
    let x ← (ev C a ρ).v
    let y ← (ev C b ρ).v
    rng2M x y
  | .zip a b, ρ => do
    let x ← (ev C a ρ).v
    let y ← (ev C b ρ).v
    zipM x y
  | .enum a, ρ => do
    let x ← (ev C a ρ).v
    enumM x
end
def evE (C : Ctx) (e : Ex) (ρ : Env) : M Val := (ev C e ρ).v
def evT (C : Ctx) (e : Ex) (ρ : Env) : M Bool := (ev C e ρ).t
def evQ (C : Ctx) (e : Ex) (ρ : Env) : M (Bool × List Val) := (ev C e ρ).q

/-! ### statements -/
inductive Flo where
  | nx (ρ : Env) | rt (v : Val) | bk (ρ : Env) | ct (ρ : Env)

/-- a op= b of two numbers -/
def augV (op : Operator) (a b : Val) : M Val := match op, a, b with
  | .Add, .int i, .int j => pure (.int (i + j))
  | .Sub, .int i, .int j => pure (.int (i - j))
  | _, _, _ => bad
def getM (x y : Val) : M Val := match x with
  | .loc n => idxV (.loc n) y
  | _ => bad

def forLoop (w : Walk) (tg : Tg) (body : Env → M Flo) : List Val → Env → M Flo
  | [], ρ => do still w.held; pure (.nx ρ)
  | x :: xs, ρ => do
    still w.held
    let ρ' ← opt (asg tg x ρ)
    let f ← body ρ'
    match f with
    | .nx ρ2 => forLoop w tg body xs ρ2
    | .ct ρ2 => forLoop w tg body xs ρ2
    | .bk ρ2 => pure (.nx ρ2)
    | .rt v => pure (.rt v)

def whlLoop (test : Env → M Bool) (body : Env → M Flo) : Nat → Env → M Flo
  | 0, _ => bad
  | n + 1, ρ => do
    let t ← test ρ
    if t then do
      let f ← body ρ
      match f with
      | .nx ρ2 => whlLoop test body n ρ2
      | .ct ρ2 => whlLoop test body n ρ2
      | .bk ρ2 => pure (.nx ρ2)
      | .rt v => pure (.rt v)
    else pure (.nx ρ)

mutual
def evS (C : Ctx) : Sx → Env → M Flo
  | .expr e, ρ => do
    let _ ← evE C e ρ
    pure (.nx ρ)
  | .ret e, ρ => do
    let v ← evE C e ρ
    pure (.rt v)
  | .ifs c a b, ρ => do
    let t ← evT C c ρ
    if t then evSs C a ρ else evSs C b ρ
  | .set tg e, ρ => do
    let v ← evE C e ρ
    let ρ' ← opt (asg tg v ρ)
    pure (.nx ρ')
  | .sub o i e, ρ => do
    let v ← evE C e ρ
    let x ← evE C o ρ
    let y ← evE C i ρ
    setV x y v
    pure (.nx ρ)
  | .aug i op e, ρ => do
    let x ← varM ρ i
    let y ← evE C e ρ
    let z ← augV op x y
    let ρ' ← opt (asg (.nam i) z ρ)
    pure (.nx ρ')
  | .augs o i op e, ρ => do
    let x ← evE C o ρ
    let y ← evE C i ρ
    let a ← getM x y
    let b ← evE C e ρ
    let z ← augV op a b
    setV x y z
    pure (.nx ρ)
  | .for_ tg it b, ρ => do
    let w ← evI C it ρ
    forLoop w tg (evSs C b) w.xs ρ
  | .whl c b, ρ => whlLoop (evT C c) (evSs C b) C.gas ρ
  | .pass, ρ => pure (.nx ρ)
  | .brk, ρ => pure (.bk ρ)
  | .cnt, ρ => pure (.ct ρ)
def evSs (C : Ctx) : Sxs → Env → M Flo
  | .nil, ρ => pure (.nx ρ)
  | .cons s ss, ρ => do
    let f ← evS C s ρ
    match f with
    | .nx ρ2 => evSs C ss ρ2
    | f => pure f
end

/-! ### defs -/
structure Fn where
  name : Str
  ps : List Str
  N : List Str
  body : Sxs

def start (N : Nat) (vs : List Val) : Env := vs.map some ++ List.replicate (N - vs.length) none
def runFn (C : Ctx) (f : Fn) (vs : List Val) : M Val := do
  guard' (decide (vs.length = f.ps.length))
  let r ← evSs C f.body (start f.N.length vs)
  match r with
  | .nx _ => pure .non
  | .rt v => pure v
  | _ => bad
/-- the defs by name, as deep as n -/
def sem (D : List Fn) (glo : Str → Option Val) (scr : List Int) (gas : Nat) : Nat → Str → List Val → M Val
  | 0, _, _ => bad
  | n + 1, x, vs => match D.find? (fun f => decide (f.name = x)) with
    | some f => runFn ⟨sem D glo scr gas n, glo, scr, gas⟩ f vs
    | none => bad
end Ev

end

section
/-! Ev1: how the reckoner's values and store lie in the abstract heap. -/
namespace Ev
open PySem L2

/-- a tuple that is no place of the store -/
def TupAt (L : List Addr) (H : Hp) (a : Addr) (vs : List V) : Prop := ∃ o, H a = some (.frz o (.tup vs)) ∧ a ∉ L ∧ PlainT o
/-- the script -/
def ScrAt (K : PySem.W.Frag) (L : List Addr) (H : Hp) (a : Addr) (vs : List V) : Prop :=
  (∃ o, H a = some (.frz o (.lst vs)) ∧ a ∉ L) ∨ ∃ (o : Obj) (its : Array Value) (n : Nat), K.lookup a = some o ∧ o.cls = .type "list" ∧ o.dict = none ∧ o.data = .seq its n ∧ its.size ≤ sizeLine ∧ Vals vs its.toList
theorem TupAt.sq {K : PySem.W.Frag} {L : List Addr} {H : Hp} {a : Addr} {vs : List V} (h : TupAt L H a vs) : SqT K H a vs := by
  obtain ⟨o, h, _⟩ := h
  exact .inl (.inr ⟨o, h⟩)
theorem ScrAt.sq {K : PySem.W.Frag} {L : List Addr} {H : Hp} {a : Addr} {vs : List V} (h : ScrAt K L H a vs) : SqL K H a vs := by
  rcases h with ⟨o, h, _⟩ | h
  · exact .inl (.inr ⟨o, h⟩)
  · exact .inr h

mutual
def Rep (K : PySem.W.Frag) (scr : List Int) (L : List Addr) (H : Hp) : Val → V → Prop
  | .non, v => v = .non
  | .bl b, v => v = .bl b
  | .int i, v => v = .int i
  | .str x, v => v = .str x
  | .ty n, v => v = .ty n
  | .loc n, v => ∃ a, v = .ref a ∧ L[n]? = some a
  | .scr, v => ∃ a, v = .ref a ∧ ScrAt K L H a (scr.map V.int)
  | .tup xs, v => ∃ a vs, v = .ref a ∧ TupAt L H a vs ∧ RepL K scr L H xs vs
def RepL (K : PySem.W.Frag) (scr : List Int) (L : List Addr) (H : Hp) : List Val → List V → Prop
  | [], vs => vs = []
  | x :: xs, vs => ∃ v r, vs = v :: r ∧ Rep K scr L H x v ∧ RepL K scr L H xs r
end

structure Ext (L : List Addr) (H : Hp) (L' : List Addr) (H' : Hp) : Prop where
  more : ∃ T, L' = L ++ T
  keep : ∀ a o, H a = some o → a ∉ L → H' a = some o ∧ a ∉ L'
theorem Ext.refl (L : List Addr) (H : Hp) : Ext L H L H := ⟨⟨[], by simp⟩, fun _ _ h n => ⟨h, n⟩⟩
theorem Ext.trans {L L1 L2 : List Addr} {H H1 H2 : Hp} (a : Ext L H L1 H1) (b : Ext L1 H1 L2 H2) : Ext L H L2 H2 := by
  obtain ⟨T, hT⟩ := a.more
  obtain ⟨U, hU⟩ := b.more
  refine ⟨⟨T ++ U, by rw [hU, hT, List.append_assoc]⟩, fun c o h n => ?_⟩
  obtain ⟨h1, n1⟩ := a.keep c o h n
  exact b.keep c o h1 n1
theorem Ext.at {L L' : List Addr} {H H' : Hp} (e : Ext L H L' H') {n : Nat} {a : Addr} (h : L[n]? = some a) : L'[n]? = some a := by
  obtain ⟨T, rfl⟩ := e.more
  have hl : n < L.length := (List.getElem?_eq_some_iff.mp h).1
  rw [List.getElem?_append_left hl]
  exact h

/-- what never turns -/
def keeps : HO → Bool
  | .tup _ => true
  | .frz _ _ => true
  | _ => false
/-- tuples and what is locked stay -/
structure Wk (L : List Addr) (H : Hp) (L' : List Addr) (H' : Hp) : Prop where
  more : ∃ T, L' = L ++ T
  keep : ∀ a o, H a = some o → keeps o = true → a ∉ L → H' a = some o ∧ a ∉ L'
theorem Ext.wk {L L' : List Addr} {H H' : Hp} (e : Ext L H L' H') : Wk L H L' H' := ⟨e.more, fun a o h _ n => e.keep a o h n⟩
theorem Wk.at {L L' : List Addr} {H H' : Hp} (e : Wk L H L' H') {n : Nat} {a : Addr} (h : L[n]? = some a) : L'[n]? = some a := by
  obtain ⟨T, rfl⟩ := e.more
  have hl : n < L.length := (List.getElem?_eq_some_iff.mp h).1
  rw [List.getElem?_append_left hl]
  exact h

section
variable {K : PySem.W.Frag} {scr : List Int} {L L' : List Addr} {H H' : Hp}
theorem TupAt.wk {a : Addr} {vs : List V} (h : TupAt L H a vs) (e : Wk L H L' H') : TupAt L' H' a vs := by
  obtain ⟨o, h, n, p⟩ := h
  obtain ⟨h1, h2⟩ := e.keep a _ h rfl n
  exact ⟨o, h1, h2, p⟩
theorem ScrAt.wk {a : Addr} {vs : List V} (h : ScrAt K L H a vs) (e : Wk L H L' H') : ScrAt K L' H' a vs := by
  rcases h with ⟨o, h, n⟩ | h
  · exact .inl ⟨o, e.keep a _ h rfl n⟩
  · exact .inr h
theorem TupAt.mono {a : Addr} {vs : List V} (h : TupAt L H a vs) (e : Ext L H L' H') : TupAt L' H' a vs := h.wk e.wk
theorem ScrAt.mono {a : Addr} {vs : List V} (h : ScrAt K L H a vs) (e : Ext L H L' H') : ScrAt K L' H' a vs := by
  rcases h with ⟨o, h, n⟩ | h
  · exact .inl ⟨o, e.keep a _ h n⟩
  · exact .inr h
mutual
theorem Rep.wk (e : Wk L H L' H') : ∀ {d : Val} {v : V}, Rep K scr L H d v → Rep K scr L' H' d v
  | .non, _, h => by unfold Rep at h ⊢; exact h
  | .bl _, _, h => by unfold Rep at h ⊢; exact h
  | .int _, _, h => by unfold Rep at h ⊢; exact h
  | .str _, _, h => by unfold Rep at h ⊢; exact h
  | .ty _, _, h => by unfold Rep at h ⊢; exact h
  | .loc n, _, h => by
    unfold Rep at h ⊢
    obtain ⟨a, e1, h⟩ := h
    exact ⟨a, e1, e.at h⟩
  | .scr, _, h => by
    unfold Rep at h ⊢
    obtain ⟨a, e1, h⟩ := h
    exact ⟨a, e1, h.wk e⟩
  | .tup xs, _, h => by
    unfold Rep at h ⊢
    obtain ⟨a, vs, e1, h, r⟩ := h
    exact ⟨a, vs, e1, h.wk e, RepL.wk e r⟩
theorem RepL.wk (e : Wk L H L' H') : ∀ {ds : List Val} {vs : List V}, RepL K scr L H ds vs → RepL K scr L' H' ds vs
  | [], _, h => by unfold RepL at h ⊢; exact h
  | x :: xs, _, h => by
    unfold RepL at h ⊢
    obtain ⟨v, r, e1, h1, h2⟩ := h
    exact ⟨v, r, e1, Rep.wk e h1, RepL.wk e h2⟩
end
theorem Rep.mono (e : Ext L H L' H') {d : Val} {v : V} (h : Rep K scr L H d v) : Rep K scr L' H' d v := h.wk e.wk
theorem RepL.mono (e : Ext L H L' H') {d : List Val} {v : List V} (h : RepL K scr L H d v) : RepL K scr L' H' d v := h.wk e.wk
theorem RepL.nil : RepL K scr L H [] [] := by unfold RepL; rfl
theorem RepL.cons {d : Val} {v : V} {ds : List Val} {vs : List V} (h : Rep K scr L H d v) (t : RepL K scr L H ds vs) : RepL K scr L H (d :: ds) (v :: vs) := by
  unfold RepL; exact ⟨v, vs, rfl, h, t⟩
theorem RepL.length : ∀ {ds : List Val} {vs : List V}, RepL K scr L H ds vs → vs.length = ds.length
  | [], _, h => by unfold RepL at h; rw [h]; rfl
  | x :: xs, _, h => by
    unfold RepL at h
    obtain ⟨v, r, rfl, _, h2⟩ := h
    simp [RepL.length h2]
theorem RepL.get : ∀ {ds : List Val} {vs : List V} {i : Nat} {d : Val}, RepL K scr L H ds vs → ds[i]? = some d → ∃ v, vs[i]? = some v ∧ Rep K scr L H d v
  | [], _, _, _, _, e => by simp at e
  | x :: xs, _, i, d, h, e => by
    unfold RepL at h
    obtain ⟨v, r, rfl, h1, h2⟩ := h
    cases i with
    | zero => simp at e; subst e; exact ⟨v, rfl, h1⟩
    | succ i =>
      obtain ⟨v', h3, h4⟩ := RepL.get (i := i) h2 (by simpa using e)
      exact ⟨v', by simpa using h3, h4⟩
theorem RepL.append : ∀ {ds es : List Val} {vs ws : List V}, RepL K scr L H ds vs → RepL K scr L H es ws → RepL K scr L H (ds ++ es) (vs ++ ws)
  | [], _, _, _, h, t => by unfold RepL at h; subst h; exact t
  | x :: xs, _, _, _, h, t => by
    unfold RepL at h
    obtain ⟨v, r, rfl, h1, h2⟩ := h
    exact RepL.cons h1 (RepL.append h2 t)
theorem RepL.take : ∀ {ds : List Val} {vs : List V} (n : Nat), RepL K scr L H ds vs → RepL K scr L H (ds.take n) (vs.take n)
  | [], _, n, h => by unfold RepL at h; subst h; simp; exact RepL.nil
  | x :: xs, _, 0, h => by simp; exact RepL.nil
  | x :: xs, _, n + 1, h => by
    unfold RepL at h
    obtain ⟨v, r, rfl, h1, h2⟩ := h
    exact RepL.cons h1 (RepL.take n h2)
theorem RepL.drop : ∀ {ds : List Val} {vs : List V} (n : Nat), RepL K scr L H ds vs → RepL K scr L H (ds.drop n) (vs.drop n)
  | [], _, n, h => by unfold RepL at h; subst h; simp; exact RepL.nil
  | x :: xs, _, 0, h => h
  | x :: xs, _, n + 1, h => by
    unfold RepL at h
    obtain ⟨v, r, rfl, h1, h2⟩ := h
    exact RepL.drop n h2
theorem RepL.set : ∀ {ds : List Val} {vs : List V} (n : Nat) {d : Val} {v : V}, RepL K scr L H ds vs → Rep K scr L H d v → RepL K scr L H (ds.set n d) (vs.set n v)
  | [], _, n, _, _, h, _ => by unfold RepL at h; subst h; simp; exact RepL.nil
  | x :: xs, _, 0, _, _, h, hd => by
    unfold RepL at h
    obtain ⟨v, r, rfl, h1, h2⟩ := h
    exact RepL.cons hd h2
  | x :: xs, _, n + 1, _, _, h, hd => by
    unfold RepL at h
    obtain ⟨v, r, rfl, h1, h2⟩ := h
    exact RepL.cons h1 (RepL.set n h2 hd)
theorem RepL.reverse : ∀ {ds : List Val} {vs : List V}, RepL K scr L H ds vs → RepL K scr L H ds.reverse vs.reverse
  | [], _, h => by unfold RepL at h; subst h; exact RepL.nil
  | x :: xs, _, h => by
    unfold RepL at h
    obtain ⟨v, r, rfl, h1, h2⟩ := h
    rw [List.reverse_cons, List.reverse_cons]
    exact (RepL.reverse h2).append (RepL.cons h1 RepL.nil)
theorem RepL.flat {xs : List Val} {vs : List V} (h : RepL K scr L H xs vs) : ∀ n : Nat, RepL K scr L H (List.replicate n xs).flatten (List.replicate n vs).flatten
  | 0 => by simp; exact RepL.nil
  | n + 1 => by
    rw [List.replicate_succ, List.replicate_succ, List.flatten_cons, List.flatten_cons]
    exact h.append (RepL.flat h n)
theorem RepL.ints : ∀ (ns : List Int), RepL K scr L H (ns.map Val.int) (ns.map V.int)
  | [] => RepL.nil
  | n :: ns => RepL.cons (by unfold Rep; rfl) (RepL.ints ns)
theorem RepL.to_ints : ∀ {ds : List Val} {ns : List Int} {vs : List V}, RepL K scr L H ds vs → intsOf ds = some ns → vs = ns.map V.int
  | [], ns, vs, h, e => by unfold RepL at h; unfold intsOf at e; cases e; exact h
  | x :: xs, ns, vs, h, e => by
    unfold RepL at h
    obtain ⟨v, r, rfl, h1, h2⟩ := h
    cases x with
    | int i =>
      unfold intsOf at e
      cases q : intsOf xs with
      | none => rw [q] at e; cases e
      | some ms =>
        rw [q] at e
        cases e
        unfold Rep at h1
        rw [h1, RepL.to_ints h2 q]
        rfl
    | _ => unfold intsOf at e; cases e
theorem RepL.to_bols : ∀ {ds : List Val} {ns : List Bool} {vs : List V}, RepL K scr L H ds vs → bolsOf ds = some ns → vs = ns.map V.bl
  | [], ns, vs, h, e => by unfold RepL at h; unfold bolsOf at e; cases e; exact h
  | x :: xs, ns, vs, h, e => by
    unfold RepL at h
    obtain ⟨v, r, rfl, h1, h2⟩ := h
    cases x with
    | bl i =>
      unfold bolsOf at e
      cases q : bolsOf xs with
      | none => rw [q] at e; cases e
      | some ms =>
        rw [q] at e
        cases e
        unfold Rep at h1
        rw [h1, RepL.to_bols h2 q]
        rfl
    | _ => unfold bolsOf at e; cases e
end

def ObR (K : PySem.W.Frag) (scr : List Int) (L : List Addr) (H : Hp) : Ob → Addr → Prop
  | .lst xs, a => ∃ vs, H a = some (.lst vs) ∧ RepL K scr L H xs vs
  | .dic kvs, a => ∃ ws : List (Key × V), H a = some (.dK ws) ∧ kvs.map (·.1) = ws.map (·.1) ∧ RepL K scr L H (kvs.map (·.2)) (ws.map (·.2))
theorem ObR.there {K : PySem.W.Frag} {scr : List Int} {L : List Addr} {H : Hp} {o : Ob} {a : Addr} (h : ObR K scr L H o a) : ∃ u, H a = some u ∧ ¬ ∃ vs, u = .tup vs := by
  cases o with
  | lst xs => obtain ⟨vs, h, _⟩ := h; exact ⟨_, h, fun ⟨_, z⟩ => nomatch z⟩
  | dic kvs => obtain ⟨ws, h, _⟩ := h; exact ⟨_, h, fun ⟨_, z⟩ => nomatch z⟩

structure Sim (K : PySem.W.Frag) (scr : List Int) (L : List Addr) (S : Sto) (H : Hp) : Prop where
  len : L.length = S.length
  nd : L.Nodup
  obj : ∀ (n : Nat) (a : Addr) (o : Ob), L[n]? = some a → S[n]? = some o → ObR K scr L H o a

section
variable {K : PySem.W.Frag} {scr : List Int} {L L' : List Addr} {H H' : Hp} {S : Sto}
theorem Sim.place (s : Sim K scr L S H) {n : Nat} {o : Ob} (h : S[n]? = some o) : ∃ a, L[n]? = some a ∧ ObR K scr L H o a := by
  have hl : n < S.length := (List.getElem?_eq_some_iff.mp h).1
  have hl' : n < L.length := by rw [s.len]; exact hl
  exact ⟨L[n], by simp [hl'], s.obj n _ o (by simp [hl']) h⟩
theorem Sim.mem (s : Sim K scr L S H) {a : Addr} (h : a ∈ L) : ∃ u, H a = some u ∧ ¬ ∃ vs, u = .tup vs := by
  obtain ⟨n, hn, e⟩ := List.mem_iff_getElem.mp h
  have hs : n < S.length := by rw [← s.len]; exact hn
  exact (s.obj n a S[n] (by simp [hn, e]) (by simp [hs])).there
theorem Sim.new (s : Sim K scr L S H) {p : Addr} (h : H p = none) : p ∉ L := fun q => by
  obtain ⟨u, hu, _⟩ := s.mem q
  rw [h] at hu; cases hu
/-- an object of the store where nothing of it was touched -/
theorem ObR.mono {o : Ob} {a : Addr} (h : ObR K scr L H o a) (e : Ext L H L' H') (hs : H' a = H a) : ObR K scr L' H' o a := by
  cases o with
  | lst xs => obtain ⟨vs, h1, h2⟩ := h; exact ⟨vs, hs.trans h1, h2.mono e⟩
  | dic kvs => obtain ⟨ws, h1, h2, h3⟩ := h; exact ⟨ws, hs.trans h1, h2, h3.mono e⟩
/-- a new object that is no place of the store -/
theorem Sim.tmp (s : Sim K scr L S H) {p : Addr} {o : HO} (h : H p = none) : Ext L H L (upd H p o) ∧ Sim K scr L S (upd H p o) := by
  have np := s.new h
  have e : Ext L H L (upd H p o) := ⟨⟨[], by simp⟩, fun a u q n => ⟨by rw [upd_ne (ne_of_none q h)]; exact q, n⟩⟩
  refine ⟨e, s.len, s.nd, fun n a ob h1 h2 => (s.obj n a ob h1 h2).mono e (upd_ne ?_)⟩
  intro z; subst z
  exact np (List.mem_of_getElem? h1)
/-- a new object of the store -/
theorem Sim.alloc (s : Sim K scr L S H) {p : Addr} {o : HO} {ob : Ob} (h : H p = none) (r : ∀ L' H', Ext L H L' H' → H' p = some o → ObR K scr L' H' ob p) :
    Ext L H (L ++ [p]) (upd H p o) ∧ Sim K scr (L ++ [p]) (S ++ [ob]) (upd H p o) := by
  have np := s.new h
  have e : Ext L H (L ++ [p]) (upd H p o) := ⟨⟨[p], rfl⟩, fun a u q n => ⟨by rw [upd_ne (ne_of_none q h)]; exact q, by
    simp only [List.mem_append, List.mem_singleton, not_or]
    exact ⟨n, ne_of_none q h⟩⟩⟩
  refine ⟨e, by simp [s.len], ?_, fun n a o' h1 h2 => ?_⟩
  · rw [List.nodup_append]
    refine ⟨s.nd, by simp, fun a ha b hb => ?_⟩
    simp only [List.mem_singleton] at hb
    subst hb
    intro z; subst z; exact np ha
  · by_cases hn : n < L.length
    · rw [List.getElem?_append_left hn] at h1
      rw [List.getElem?_append_left (by rw [← s.len]; exact hn)] at h2
      refine (s.obj n a o' h1 h2).mono e (upd_ne ?_)
      intro z; subst z
      exact np (List.mem_of_getElem? h1)
    · have hn' : n = L.length := by
        have := (List.getElem?_eq_some_iff.mp h1).1
        simp at this; omega
      subst hn'
      rw [List.getElem?_append_right (Nat.le_refl _)] at h1
      rw [List.getElem?_append_right (by rw [s.len]; exact Nat.le_refl _)] at h2
      simp at h1
      rw [s.len] at h2
      simp at h2
      subst h1 h2
      exact r _ _ e upd_same
/-- an object of the store is put anew -/
theorem Sim.put (s : Sim K scr L S H) {n : Nat} {a : Addr} {o : HO} {ob : Ob} (h : L[n]? = some a) (r : ∀ L' H', Ext L H L' H' → H' a = some o → ObR K scr L' H' ob a) :
    Ext L H L (upd H a o) ∧ Sim K scr L (S.set n ob) (upd H a o) := by
  have ha : a ∈ L := List.mem_of_getElem? h
  have e : Ext L H L (upd H a o) := ⟨⟨[], by simp⟩, fun b u q nb => ⟨by rw [upd_ne (fun z => nb (by rw [z]; exact ha))]; exact q, nb⟩⟩
  refine ⟨e, by simp [s.len], s.nd, fun m b o' h1 h2 => ?_⟩
  by_cases hm : m = n
  · subst hm
    rw [h] at h1; cases h1
    have hl : m < S.length := by rw [← s.len]; exact (List.getElem?_eq_some_iff.mp h).1
    rw [List.getElem?_set_self hl] at h2
    cases h2
    exact r _ _ e upd_same
  · rw [List.getElem?_set_ne (Ne.symm hm)] at h2
    refine (s.obj m b o' h1 h2).mono e (upd_ne ?_)
    intro z; subst z
    obtain ⟨l1, e1⟩ := List.getElem?_eq_some_iff.mp h1
    obtain ⟨l2, e2⟩ := List.getElem?_eq_some_iff.mp h
    exact hm ((List.getElem_inj s.nd).mp (e1.trans e2.symm))
theorem Sim.lst (s : Sim K scr L S H) {n : Nat} {xs : List Val} (h : S[n]? = some (.lst xs)) : ∃ a vs, L[n]? = some a ∧ H a = some (.lst vs) ∧ RepL K scr L H xs vs := by
  obtain ⟨a, h1, vs, h2, h3⟩ := s.place h
  exact ⟨a, vs, h1, h2, h3⟩
theorem Sim.dic (s : Sim K scr L S H) {n : Nat} {kvs : List (Key × Val)} (h : S[n]? = some (.dic kvs)) : ∃ a ws, L[n]? = some a ∧ H a = some (.dK ws) ∧ kvs.map (·.1) = ws.map (·.1) ∧ RepL K scr L H (kvs.map (·.2)) (ws.map (·.2)) := by
  obtain ⟨a, h1, ws, h2, h3, h4⟩ := s.place h
  exact ⟨a, ws, h1, h2, h3, h4⟩
end

/-- the names' values -/
structure EnvR (K : PySem.W.Frag) (scr : List Int) (L : List Addr) (H : Hp) (ρ : Env) (σ : St) : Prop where
  len : ρ.length = σ.length
  val : ∀ (i : Nat) (d : Val), ρ[i]? = some (some d) → ∃ v, σ[i]? = some (some v) ∧ Rep K scr L H d v
section
variable {K : PySem.W.Frag} {scr : List Int} {L L' : List Addr} {H H' : Hp}
theorem EnvR.mono {ρ : Env} {σ : St} (h : EnvR K scr L H ρ σ) (e : Ext L H L' H') : EnvR K scr L' H' ρ σ :=
  ⟨h.len, fun i d q => let ⟨v, h1, h2⟩ := h.val i d q; ⟨v, h1, h2.mono e⟩⟩
theorem EnvR.set {ρ : Env} {σ : St} (h : EnvR K scr L H ρ σ) (i : Nat) {d : Val} {v : V} (r : Rep K scr L H d v) : EnvR K scr L H (ρ.set i (some d)) (σ.set i (some v)) := by
  refine ⟨by simp [h.len], fun j d' q => ?_⟩
  by_cases hj : i = j
  · subst hj
    by_cases hi : i < ρ.length
    · rw [List.getElem?_set_self hi] at q
      cases q
      exact ⟨v, by rw [List.getElem?_set_self (by rw [← h.len]; exact hi)], r⟩
    · rw [List.getElem?_eq_none (by simpa using hi)] at q; cases q
  · rw [List.getElem?_set_ne hj] at q
    obtain ⟨v', h1, h2⟩ := h.val j d' q
    exact ⟨v', by rw [List.getElem?_set_ne hj]; exact h1, h2⟩
theorem EnvR.wipe {ρ : Env} {σ : St} (h : EnvR K scr L H ρ σ) : ∀ vs : List Nat, EnvR K scr L H (wipe ρ vs) (L2.wipe σ vs)
  | [] => h
  | i :: vs => by
    have ih := EnvR.wipe h vs
    refine ⟨?_, fun j d q => ?_⟩
    · show ((Ev.wipe ρ vs).set i none).length = ((L2.wipe σ vs).set i none).length
      simp [ih.len]
    · have q : ((Ev.wipe ρ vs).set i none)[j]? = some (some d) := q
      show ∃ v, ((L2.wipe σ vs).set i none)[j]? = some (some v) ∧ _
      by_cases hj : i = j
      · subst hj
        by_cases hi : i < (Ev.wipe ρ vs).length
        · rw [List.getElem?_set_self hi] at q; cases q
        · rw [List.getElem?_eq_none (by simpa using hi)] at q; cases q
      · rw [List.getElem?_set_ne hj] at q
        obtain ⟨v', h1, h2⟩ := ih.val j d q
        exact ⟨v', by rw [List.getElem?_set_ne hj]; exact h1, h2⟩
end
end Ev

end

section
set_option maxHeartbeats 1000000
/-! Ev2: operators by values. -/
namespace Ev
open PySem L2 PyProof.Rows

/-- what is wanted of a value that came, and of the store behind it -/
def Post (K : PySem.W.Frag) (scr : List Int) (L : List Addr) (H : Hp) (d : Val) (S' : Sto) (Q : VK) : Prop :=
  ∀ v L' H', Sim K scr L' S' H' → Ext L H L' H' → Rep K scr L' H' d v → Q v H'
section
variable {K : PySem.W.Frag} {scr : List Int} {L : List Addr} {H : Hp} {S : Sto} {Q : VK}
theorem Post.here {d : Val} {v : V} (q : Post K scr L H d S Q) (s : Sim K scr L S H) (r : Rep K scr L H d v) : Q v H := q v L H s (Ext.refl L H) r
theorem Post.lit {d : Val} {v : V} (q : Post K scr L H d S Q) (s : Sim K scr L S H) (r : ∀ L H, Rep K scr L H d v) : Q v H := q v L H s (Ext.refl L H) (r _ _)
theorem rep_tup {xs : List Val} {p : Addr} {vs : List V} (h : TupAt L H p vs) (r : RepL K scr L H xs vs) : Rep K scr L H (.tup xs) (.ref p) := by
  unfold Rep; exact ⟨p, vs, rfl, h, r⟩
theorem Post.tup {xs : List Val} {vs : List V} (q : Post K scr L H (.tup xs) S Q) (s : Sim K scr L S H) (r : RepL K scr L H xs vs) : NewT H vs Q := by
  intro o p po hp
  obtain ⟨e, s'⟩ := s.tmp (o := .frz o (.tup vs)) hp
  exact q _ _ _ s' e (rep_tup ⟨o, upd_same, s.new hp, po⟩ (r.mono e))
theorem ObR.of_lst {xs : List Val} {p : Addr} {vs : List V} (r : RepL K scr L H xs vs) : ∀ L' H', Ext L H L' H' → H' p = some (.lst vs) → ObR K scr L' H' (.lst xs) p :=
  fun L' H' e h => ⟨vs, h, r.mono e⟩
theorem rep_loc {n : Nat} {a : Addr} (h : L[n]? = some a) : Rep K scr L H (.loc n) (.ref a) := by unfold Rep; exact ⟨a, rfl, h⟩
theorem Post.lst {xs : List Val} {p : Addr} {vs : List V} (q : Post K scr L H (.loc S.length) (S ++ [.lst xs]) Q) (s : Sim K scr L S H) (hp : H p = none) (r : RepL K scr L H xs vs) : Q (.ref p) (upd H p (.lst vs)) := by
  obtain ⟨e, s'⟩ := s.alloc (o := .lst vs) (ob := .lst xs) hp (ObR.of_lst r)
  exact q _ _ _ s' e (rep_loc (by rw [← s.len]; simp))
theorem Rep.int {i : Int} {v : V} (h : Rep K scr L H (.int i) v) : v = .int i := by unfold Rep at h; exact h
theorem Rep.bl {i : Bool} {v : V} (h : Rep K scr L H (.bl i) v) : v = .bl i := by unfold Rep at h; exact h
theorem Rep.str {i : Str} {v : V} (h : Rep K scr L H (.str i) v) : v = .str i := by unfold Rep at h; exact h
theorem Rep.non {v : V} (h : Rep K scr L H .non v) : v = .non := by unfold Rep at h; exact h
theorem Rep.ty {n : String} {v : V} (h : Rep K scr L H (.ty n) v) : v = .ty n := by unfold Rep at h; exact h
theorem Rep.loc {n : Nat} {v : V} (h : Rep K scr L H (.loc n) v) : ∃ a, v = .ref a ∧ L[n]? = some a := by unfold Rep at h; exact h
theorem Rep.tup {xs : List Val} {v : V} (h : Rep K scr L H (.tup xs) v) : ∃ a vs, v = .ref a ∧ TupAt L H a vs ∧ RepL K scr L H xs vs := by unfold Rep at h; exact h
theorem Rep.ofScr {v : V} (h : Rep K scr L H .scr v) : ∃ a, v = .ref a ∧ ScrAt K L H a (scr.map V.int) := by unfold Rep at h; exact h
theorem rep_int {i : Int} : Rep K scr L H (.int i) (.int i) := by unfold Rep; rfl
theorem rep_bl {i : Bool} : Rep K scr L H (.bl i) (.bl i) := by unfold Rep; rfl
theorem rep_str {i : Str} : Rep K scr L H (.str i) (.str i) := by unfold Rep; rfl
theorem rep_non : Rep K scr L H .non .non := by unfold Rep; rfl
theorem rep_ty {n : String} : Rep K scr L H (.ty n) (.ty n) := by unfold Rep; rfl
/-- a place of the store that is a list -/
theorem Sim.lst_at (s : Sim K scr L S H) {n : Nat} {xs : List Val} {a : Addr} (h : S[n]? = some (.lst xs)) (ha : L[n]? = some a) : ∃ vs, H a = some (.lst vs) ∧ RepL K scr L H xs vs := by
  obtain ⟨b, vs, h1, h2, h3⟩ := s.lst h
  rw [ha] at h1; cases h1
  exact ⟨vs, h2, h3⟩
theorem Sim.dic_at (s : Sim K scr L S H) {n : Nat} {kvs : List (Key × Val)} {a : Addr} (h : S[n]? = some (.dic kvs)) (ha : L[n]? = some a) : ∃ ws, H a = some (.dK ws) ∧ kvs.map (·.1) = ws.map (·.1) ∧ RepL K scr L H (kvs.map (·.2)) (ws.map (·.2)) := by
  obtain ⟨b, vs, h1, h2, h3⟩ := s.dic h
  rw [ha] at h1; cases h1
  exact ⟨vs, h2, h3⟩
end

/-- a function of two values, as a rule -/
def r2M (K : PySem.W.Frag) (scr : List Int) (f : Val → Val → M Val) : R2 := fun x y H Q => ∃ L S a b d S', Sim K scr L S H ∧ Rep K scr L H a x ∧ Rep K scr L H b y ∧ f a b S = .ok d S' ∧ Post K scr L H d S' Q

theorem ok_pure {α : Type} {a b : α} {S S' : Sto} (h : (pure a : M α) S = .ok b S') : a = b ∧ S = S' := by
  have h : Out.ok a S = .ok b S' := h
  cases h; exact ⟨rfl, rfl⟩
theorem ok_bad {α : Type} {b : α} {S S' : Sto} (h : (bad : M α) S = .ok b S') : False := by
  have h : (Out.bad : Out α) = .ok b S' := h
  cases h
theorem ok_bind {α β : Type} {m : M α} {f : α → M β} {b : β} {S S' : Sto} (h : (m >>= f) S = .ok b S') : ∃ a S1, m S = .ok a S1 ∧ f a S1 = .ok b S' := by
  have h : M.bind m f S = .ok b S' := h
  unfold M.bind at h
  split at h
  · rename_i a S1 e; exact ⟨a, S1, e, h⟩
  · cases h
  · cases h
theorem bind_ok {α β : Type} {m : M α} {f : α → M β} {a : α} {S S1 : Sto} (h : m S = .ok a S1) : (m >>= f) S = f a S1 := by
  show M.bind m f S = _
  unfold M.bind
  rw [h]

section
variable {X : Cx} {scr : List Int}
theorem neg_bool {prog : Program} {w : World} {A : Around} {E : Value → Shared → Prop} {s : Shared} {b : Bool} {Q : Value → Shared → Prop} (h : Q (.int (-(if b = true then (1 : Int) else 0)) s.toks) { s with toks := s.toks + 1 }) : wpAny (model prog w) A (unaryOp .USub (.bool b)) Q E s := by
  have g : Gives (Builtin.«int.__neg__» ⟨[.bool b], []⟩) (.int (-(if b = true then (1 : Int) else 0))) :=
    .of_wp fun M A E s Q h => by obtain ⟨hp, g, d, tk, os⟩ := s; wp_walk; exact ⟨_, rfl, h⟩
  exact unaryOp_gives (op := .USub) (T := "bool") rfl rfl F.slot_bool_neg F.entry_int_neg (F.args_int_neg_1 _) g h
/-- what stands for a number -/
theorem num_cases {K : PySem.W.Frag} {L : List Addr} {H : Hp} {a : Val} {i : Int} {x : V} {v : Value} (h : num? a = some i) (r : Rep K scr L H a x) (rv : RelV x v) : (∃ t, v = .int i t) ∨ ∃ b, v = .bool b ∧ i = (if b = true then 1 else 0) := by
  cases a with
  | int j =>
    cases h
    rw [r.int] at rv
    exact .inl rv
  | bl b =>
    cases h
    rw [r.bl] at rv
    exact .inr ⟨b, rv, rfl⟩
  | _ => cases h
theorem fin_int {pins : List (Addr × Obj)} {σ : L2.St} {H : Hp} {s : Shared} {L : List Addr} {S : Sto} {Q : VK} {i : Int} {t : Tok} {n : Nat} (I : Inv X pins σ H s) (sm : Sim X.K scr L S H) (q : Post X.K scr L H (.int i) S Q) : EP X pins σ Q (.int i t) { s with toks := n } :=
  ⟨.int i, H, I.tok _, ⟨_, rfl⟩, q.here sm rep_int⟩
theorem fin_b {pins : List (Addr × Obj)} {σ : L2.St} {H : Hp} {s : Shared} {L : List Addr} {S : Sto} {Q : VK} {i j : Bool} (I : Inv X pins σ H s) (sm : Sim X.K scr L S H) (q : Post X.K scr L H (.bl i) S Q) (e : i = j) : EP X pins σ Q (.bool j) s :=
  ⟨.bl i, H, I, by rw [e]; rfl, q.here sm rep_bl⟩

theorem num2_ok {op : Operator} {f : Int → Int → Option Int}
    (h1 : ∀ (i j k : Int) (t u : Tok) (s : Shared) (Q E), f i j = some k → Q (.int k s.toks) { s with toks := s.toks + 1 } → wpAny (model X.prog X.w) X.A (binaryOp op (.int i t) (.int j u)) Q E s)
    (h2 : ∀ (i k : Int) (b : Bool) (t : Tok) (s : Shared) (Q E), f i (if b = true then 1 else 0) = some k → Q (.int k s.toks) { s with toks := s.toks + 1 } → wpAny (model X.prog X.w) X.A (binaryOp op (.int i t) (.bool b)) Q E s)
    (h3 : ∀ (j k : Int) (b : Bool) (u : Tok) (s : Shared) (Q E), f (if b = true then 1 else 0) j = some k → Q (.int k s.toks) { s with toks := s.toks + 1 } → wpAny (model X.prog X.w) X.A (binaryOp op (.bool b) (.int j u)) Q E s)
    (h4 : ∀ (k : Int) (b c : Bool) (s : Shared) (Q E), f (if b = true then 1 else 0) (if c = true then 1 else 0) = some k → Q (.int k s.toks) { s with toks := s.toks + 1 } → wpAny (model X.prog X.w) X.A (binaryOp op (.bool b) (.bool c)) Q E s) :
    OpR X (binaryOp op) (r2M X.K scr (num2 f)) := by
  intro pins s σ H x y v u Q I rx ry h
  obtain ⟨L, S, a, b, d, S', sm, ra, rb, e, q⟩ := h
  unfold num2 at e
  cases ea : num? a with
  | none => rw [ea] at e; exact (ok_bad e).elim
  | some i =>
    cases eb : num? b with
    | none => rw [ea, eb] at e; exact (ok_bad e).elim
    | some j =>
      rw [ea, eb] at e
      simp only at e
      cases ef : f i j with
      | none => rw [ef] at e; exact (ok_bad e).elim
      | some k =>
        rw [ef] at e
        obtain ⟨e1, e2⟩ := ok_pure e
        subst e1 e2
        rcases num_cases ea ra rx with ⟨t, rfl⟩ | ⟨b1, rfl, hi⟩
        · rcases num_cases eb rb ry with ⟨t', rfl⟩ | ⟨b2, rfl, hj⟩
          · exact h1 _ _ _ _ _ _ _ _ ef (fin_int I sm q)
          · rw [hj] at ef; exact h2 _ _ _ _ _ _ _ ef (fin_int I sm q)
        · rcases num_cases eb rb ry with ⟨t', rfl⟩ | ⟨b2, rfl, hj⟩
          · rw [hi] at ef; exact h3 _ _ _ _ _ _ _ ef (fin_int I sm q)
          · rw [hi, hj] at ef; exact h4 _ _ _ _ _ _ ef (fin_int I sm q)
theorem add_num : OpR X (binaryOp .Add) (r2M X.K scr (num2 fun i j => some (i + j))) :=
  num2_ok (fun i j k t u s Q E e q => by cases e; exact add_int q) (fun i k b t s Q E e q => by cases e; exact PySem.add_int_bool q)
    (fun j k b u s Q E e q => by cases e; exact PySem.IntBool.add_bool_int q) (fun k b c s Q E e q => by cases e; exact add_bool (by cases b <;> cases c <;> exact q))
theorem sub_num : OpR X (binaryOp .Sub) (r2M X.K scr (num2 fun i j => some (i - j))) :=
  num2_ok (fun i j k t u s Q E e q => by cases e; exact sub_int q) (fun i k b t s Q E e q => by cases e; exact PySem.IntBool.sub_int_bool q)
    (fun j k b u s Q E e q => by cases e; exact PySem.IntBool.sub_bool_int q) (fun k b c s Q E e q => by cases e; exact sub_bool (by cases b <;> cases c <;> exact q))
theorem mul_some {i j k : Int} (e : (if mulOk i j then some (i * j) else none) = some k) : CMulW i j ∧ k = i * j := by
  by_cases h : mulOk i j = true
  · rw [if_pos h] at e
    cases e
    exact ⟨by have h : i.natAbs.log2 + j.natAbs.log2 < 1000000 := of_decide_eq_true h; exact h, rfl⟩
  · rw [if_neg h] at e; cases e
theorem mul_num : OpR X (binaryOp .Mult) (r2M X.K scr (num2 fun i j => if mulOk i j then some (i * j) else none)) :=
  num2_ok (fun i j k t u s Q E e q => by obtain ⟨h, rfl⟩ := mul_some e; exact mul_int q h.ok) (fun i k b t s Q E e q => by obtain ⟨h, rfl⟩ := mul_some e; exact PySem.IntBool.mul_int_bool q)
    (fun j k b u s Q E e q => by obtain ⟨h, rfl⟩ := mul_some e; exact PySem.IntBool.mul_bool_int q) (fun k b c s Q E e q => by obtain ⟨h, rfl⟩ := mul_some e; exact mul_bool (by cases b <;> cases c <;> exact q))

theorem add_ok : OpR X (binaryOp .Add) (r2M X.K scr addV) := by
  intro pins s σ H x y v u Q I rx ry h
  obtain ⟨L, S, a, b, d, S', sm, ra, rb, e, q⟩ := h
  have num : num2 (fun i j => some (i + j)) a b S = .ok d S' → wpAny (model X.prog X.w) X.A (binaryOp .Add v u) (EP X pins σ Q) X.xe s := fun e =>
    add_num (scr := scr) pins s σ H x y v u Q I rx ry ⟨L, S, a, b, d, S', sm, ra, rb, e, q⟩
  cases a with
  | str i =>
    cases b with
    | str j =>
      have e : (if i.length + j.length ≤ sizeLine then (pure (.str (i ++ j)) : M Val) else bad) S = .ok d S' := e
      by_cases hz : i.length + j.length ≤ sizeLine
      · rw [if_pos hz] at e
        obtain ⟨e1, e2⟩ := ok_pure e
        subst e1 e2
        exact op_add_str pins s σ H x y v u Q I rx ry ⟨i, j, ra.str, rb.str, hz, q.here sm rep_str⟩
      · rw [if_neg hz] at e; exact (ok_bad e).elim
    | _ => exact num e
  | tup xs =>
    cases b with
    | tup ys =>
      have e : (if xs.length + ys.length ≤ sizeLine then (pure (.tup (xs ++ ys)) : M Val) else bad) S = .ok d S' := e
      by_cases hz : xs.length + ys.length ≤ sizeLine
      · rw [if_pos hz] at e
        obtain ⟨e1, e2⟩ := ok_pure e
        subst e1 e2
        obtain ⟨a, vs, hx, ta, r1⟩ := ra.tup
        obtain ⟨b, ws, hy, tb, r2⟩ := rb.tup
        have l1 := r1.length
        have l2 := r2.length
        refine op_catF pins s σ H x y v u Q I rx ry ⟨a, b, vs, ws, hx, hy, ta.sq, tb.sq, by omega, fun z => ?_, fun _ z => ?_, fun _ _ => q.tup sm (r1.append r2)⟩
        · subst z
          have : xs = [] := by simpa using l1.symm
          subst this
          exact q.here sm (by rw [← hy]; simpa using rb)
        · subst z
          have : ys = [] := by simpa using l2.symm
          subst this
          exact q.here sm (by rw [← hx]; simpa using ra)
      · rw [if_neg hz] at e; exact (ok_bad e).elim
    | _ => exact num e
  | loc n =>
    cases b with
    | loc m =>
      have e : (match S[n]?, S[m]? with
        | some (.lst xs), some (.lst ys) => if xs.length + ys.length ≤ sizeLine then alloc (.lst (xs ++ ys)) S else .bad
        | _, _ => .bad) = Out.ok d S' := e
      split at e
      · rename_i xs ys h1 h2
        by_cases hz : xs.length + ys.length ≤ sizeLine
        · rw [if_pos hz] at e
          cases e
          obtain ⟨a, hx, ha⟩ := ra.loc
          obtain ⟨b, hy, hb⟩ := rb.loc
          obtain ⟨vs, g1, r1⟩ := sm.lst_at h1 ha
          obtain ⟨ws, g2, r2⟩ := sm.lst_at h2 hb
          have l1 := r1.length
          have l2 := r2.length
          exact op_cat pins s σ H x y v u Q I rx ry ⟨a, b, vs, ws, hx, hy, g1, g2, by omega, fun p hp => q.lst sm hp (r1.append r2)⟩
        · rw [if_neg hz] at e; cases e
      · cases e
    | _ => exact num e
  | _ => exact num e
theorem mul_ok : OpR X (binaryOp .Mult) (r2M X.K scr mulV) := by
  intro pins s σ H x y v u Q I rx ry h
  obtain ⟨L, S, a, b, d, S', sm, ra, rb, e, q⟩ := h
  have num : num2 (fun i j => if mulOk i j then some (i * j) else none) a b S = .ok d S' → wpAny (model X.prog X.w) X.A (binaryOp .Mult v u) (EP X pins σ Q) X.xe s := fun e =>
    mul_num (scr := scr) pins s σ H x y v u Q I rx ry ⟨L, S, a, b, d, S', sm, ra, rb, e, q⟩
  cases a with
  | loc n =>
    cases b with
    | int k =>
      have e : (match S[n]? with
        | some (.lst xs) => if xs.length * k.toNat ≤ sizeLine ∧ -(2 ^ 63) ≤ k ∧ k < 2 ^ 63 then alloc (.lst (List.replicate k.toNat xs).flatten) S else .bad
        | _ => .bad) = Out.ok d S' := e
      split at e
      · rename_i xs h1
        by_cases hz : xs.length * k.toNat ≤ sizeLine ∧ -(2 ^ 63) ≤ k ∧ k < 2 ^ 63
        · rw [if_pos hz] at e
          cases e
          obtain ⟨a, hx, ha⟩ := ra.loc
          obtain ⟨vs, g1, r1⟩ := sm.lst_at h1 ha
          have l1 := r1.length
          exact op_rep pins s σ H x y v u Q I rx ry ⟨a, k, vs, hx, rb.int, g1, hz.2.1, hz.2.2, by rw [l1]; exact hz.1, fun p hp => q.lst sm hp (r1.flat _)⟩
        · rw [if_neg hz] at e; cases e
      · cases e
    | _ => exact num e
  | _ => exact num e
theorem bin_ok (op : Operator) : OpR X (binaryOp op) (r2M X.K scr (binV op)) := by
  cases op with
  | Add => exact add_ok
  | Sub => exact sub_num
  | Mult => exact mul_ok
  | FloorDiv =>
    intro pins s σ H x y v u Q I rx ry h
    obtain ⟨L, S, a, b, d, S', sm, ra, rb, e, q⟩ := h
    have e : (match a, b with | .int i, .int j => if divOk j then (pure (.int (i / j)) : M Val) else bad | _, _ => bad) S = .ok d S' := e
    split at e
    · rename_i i j _
      by_cases hz : divOk j = true
      · rw [if_pos hz] at e
        obtain ⟨e1, e2⟩ := ok_pure e
        subst e1 e2
        unfold divOk at hz
        rw [Bool.and_eq_true] at hz
        exact op_fdivW pins s σ H x y v u Q I rx ry ⟨i, j, ra.int, rb.int, ⟨of_decide_eq_true hz.1, of_decide_eq_true hz.2⟩, q.here sm rep_int⟩
      · rw [if_neg hz] at e; exact (ok_bad e).elim
    · exact (ok_bad e).elim
  | Mod =>
    intro pins s σ H x y v u Q I rx ry h
    obtain ⟨L, S, a, b, d, S', sm, ra, rb, e, q⟩ := h
    have e : (match a, b with | .int i, .int j => if 0 < j then (pure (.int (i % j)) : M Val) else bad | _, _ => bad) S = .ok d S' := e
    split at e
    · rename_i i j _
      by_cases hz : 0 < j
      · rw [if_pos hz] at e
        obtain ⟨e1, e2⟩ := ok_pure e
        subst e1 e2
        exact op_mod pins s σ H x y v u Q I rx ry ⟨i, j, ra.int, rb.int, hz, q.here sm rep_int⟩
      · rw [if_neg hz] at e; exact (ok_bad e).elim
    · exact (ok_bad e).elim
  | Pow =>
    intro pins s σ H x y v u Q I rx ry h
    obtain ⟨L, S, a, b, d, S', sm, ra, rb, e, q⟩ := h
    have e : (match a, b with | .int i, .int j => if powOk i j then (pure (.int (i ^ j.toNat)) : M Val) else bad | _, _ => bad) S = .ok d S' := e
    split at e
    · rename_i i j _
      by_cases hz : powOk i j = true
      · rw [if_pos hz] at e
        obtain ⟨e1, e2⟩ := ok_pure e
        subst e1 e2
        unfold powOk at hz
        rw [Bool.and_eq_true, Bool.and_eq_true] at hz
        exact op_pow pins s σ H x y v u Q I rx ry ⟨i, j, ra.int, rb.int, ⟨of_decide_eq_true hz.1.1, of_decide_eq_true hz.1.2, of_decide_eq_true hz.2⟩, q.here sm rep_int⟩
      · rw [if_neg hz] at e; exact (ok_bad e).elim
    · exact (ok_bad e).elim
  | _ =>
    intro pins s σ H x y v u Q I rx ry h
    obtain ⟨L, S, a, b, d, S', sm, ra, rb, e, q⟩ := h
    have e : (bad : M Val) S = .ok d S' := e
    exact (ok_bad e).elim
end

/-! ### data -/
section
variable {K : PySem.W.Frag} {scr : List Int} {L : List Addr} {H : Hp} {S : Sto}
theorem deep_dp (sm : Sim K scr L S H) : ∀ (n : Nat) (d : Val) (v : V) (y : PyData), Rep K scr L H d v → deep n S d = some y → Dp K H v y := by
  have all : ∀ (n : Nat), (∀ (d : Val) (v : V) (y : PyData), Rep K scr L H d v → deep n S d = some y → Dp K H v y) →
      ∀ (xs : List Val) (vs : List V) (ys : List PyData), RepL K scr L H xs vs → xs.mapM (deep n S) = some ys → DpAll K H vs ys := by
    intro n ih xs
    induction xs with
    | nil =>
      intro vs ys r e
      unfold RepL at r
      subst r
      simp at e
      subst e
      exact .nil
    | cons x xs ihx =>
      intro vs ys r e
      unfold RepL at r
      obtain ⟨v, r', rfl, h1, h2⟩ := r
      rw [List.mapM_cons] at e
      cases e1 : deep n S x with
      | none => rw [e1] at e; cases e
      | some y =>
        rw [e1] at e
        cases e2 : xs.mapM (deep n S) with
        | none => rw [e2] at e; cases e
        | some zs =>
          rw [e2] at e
          cases e
          exact .cons (ih x v y h1 e1) (ihx _ _ h2 e2)
  intro n
  induction n with
  | zero =>
    intro d v y r e
    cases d with
    | non => unfold deep at e; cases e; rw [r.non]; exact .non
    | bl b => unfold deep at e; cases e; rw [r.bl]; exact .bl b
    | int b => unfold deep at e; cases e; rw [r.int]; exact .int b
    | str b => unfold deep at e; cases e; rw [r.str]; exact .str b
    | _ => unfold deep at e; cases e
  | succ n ih =>
    intro d v y r e
    cases d with
    | non => unfold deep at e; cases e; rw [r.non]; exact .non
    | bl b => unfold deep at e; cases e; rw [r.bl]; exact .bl b
    | int b => unfold deep at e; cases e; rw [r.int]; exact .int b
    | str b => unfold deep at e; cases e; rw [r.str]; exact .str b
    | tup xs =>
      unfold deep at e
      obtain ⟨a, vs, rfl, ta, rl⟩ := r.tup
      cases e2 : xs.mapM (deep n S) with
      | none => rw [e2] at e; cases e
      | some zs =>
        rw [e2] at e
        cases e
        exact .tup ta.sq (all n ih xs vs zs rl e2)
    | loc m =>
      unfold deep at e
      obtain ⟨a, rfl, ha⟩ := r.loc
      split at e
      · rename_i xs h1
        obtain ⟨vs, g1, rl⟩ := sm.lst_at h1 ha
        cases e2 : xs.mapM (deep n S) with
        | none => rw [e2] at e; cases e
        | some zs =>
          rw [e2] at e
          cases e
          exact .lst (SqL.of g1) (all n ih xs vs zs rl e2)
      · cases e
    | _ => unfold deep at e; cases e
theorem dat_dp (sm : Sim K scr L S H) {d : Val} {v : V} {y : PyData} (r : Rep K scr L H d v) (e : dat S d = some y) : Dp K H v y := by unfold dat at e; exact deep_dp sm _ d v y r e
end
end Ev

end

section
set_option maxHeartbeats 1000000
/-! Ev3: comparisons, truth, subscripts by values. -/
namespace Ev
open PySem L2 PyProof.Rows

section
variable {X : Cx} {scr : List Int}
/-- what a comparison tells, by its values -/
def r2C (K : PySem.W.Frag) (scr : List Int) (f : Sto → Val → Val → Option Bool) : R2 := fun x y H Q => ∃ L S a b c, Sim K scr L S H ∧ Rep K scr L H a x ∧ Rep K scr L H b y ∧ f S a b = some c ∧ Q (.bl c) H
theorem relV_rep_ne_non {K : PySem.W.Frag} {L : List Addr} {H : Hp} {a : Val} {x : V} (r : Rep K scr L H a x) : decide (a = .non) = decide (x = .non) := by
  cases a with
  | non => rw [r.non]; rfl
  | bl b => rw [r.bl]; rfl
  | int b => rw [r.int]; rfl
  | str b => rw [r.str]; rfl
  | ty b => rw [r.ty]; rfl
  | tup b => obtain ⟨p, vs, rfl, _⟩ := r.tup; rfl
  | loc b => obtain ⟨p, rfl, _⟩ := r.loc; rfl
  | scr => obtain ⟨p, rfl, _⟩ := r.ofScr; rfl
theorem rep_eq_bl {K : PySem.W.Frag} {L : List Addr} {H : Hp} {a : Val} {x : V} {v : Value} (c : Bool) (r : Rep K scr L H a x) (rv : RelV x v) : plainIs v (.bool c) = true ∧ ((v == Value.bool c) = decide (a = .bl c)) := by
  cases a with
  | non => rw [r.non] at rv; obtain rfl : v = .none := rv; exact ⟨rfl, rfl⟩
  | bl b =>
    rw [r.bl] at rv; obtain rfl : v = .bool b := rv
    refine ⟨rfl, ?_⟩
    cases b <;> cases c <;> rfl
  | int b => rw [r.int] at rv; obtain ⟨t, rfl⟩ := rv; exact ⟨rfl, rfl⟩
  | str b => rw [r.str] at rv; obtain ⟨t, rfl⟩ := rv; exact ⟨rfl, rfl⟩
  | ty b => rw [r.ty] at rv; obtain rfl : v = .type b := rv; exact ⟨rfl, rfl⟩
  | tup b => obtain ⟨p, vs, rfl, _⟩ := r.tup; obtain rfl : v = .ref p := rv; exact ⟨rfl, rfl⟩
  | loc b => obtain ⟨p, rfl, _⟩ := r.loc; obtain rfl : v = .ref p := rv; exact ⟨rfl, rfl⟩
  | scr => obtain ⟨p, rfl, _⟩ := r.ofScr; obtain rfl : v = .ref p := rv; exact ⟨rfl, rfl⟩

theorem shaped2 {d e : PyData} {c : Bool} {b : Bool} (h : (if SeqAt.shaped d && SeqAt.shaped e then some b else none) = some c) : SeqAt.shaped d = true ∧ SeqAt.shaped e = true ∧ c = b := by
  by_cases q : (SeqAt.shaped d && SeqAt.shaped e) = true
  · rw [if_pos q] at h
    cases h
    rw [Bool.and_eq_true] at q
    exact ⟨q.1, q.2, rfl⟩
  · rw [if_neg q] at h; cases h
theorem eq_ok {op : CmpOp} {g : Bool → Bool} (h1 : OpR X (compareOp op) (fun x y H Q => scal x y = true ∧ Q (.bl (g (decide (x = y)))) H))
    (h2 : OpR X (compareOp op) (fun x y H Q => ∃ d e, Dp X.K H x d ∧ Dp X.K H y e ∧ SeqAt.shaped d = true ∧ SeqAt.shaped e = true ∧ Q (.bl (g (PyData.eqv d e))) H)) :
    OpR X (compareOp op) (r2C X.K scr fun S a b => (eqVal S a b).map g) := by
  intro pins s σ H x y v u Q I rx ry h
  obtain ⟨L, S, a, b, c, sm, ra, rb, e, q⟩ := h
  cases e0 : eqVal S a b with
  | none => simp only [e0] at e; cases e
  | some c0 =>
  simp only [e0] at e
  cases e
  have deepC : eqDat (dat S a) (dat S b) = some c0 → wpAny (model X.prog X.w) X.A (compareOp op v u) (EP X pins σ Q) X.xe s := fun e => by
    unfold eqDat at e
    split at e
    · rename_i d1 d2 h3 h4
      obtain ⟨s1, s2, rfl⟩ := shaped2 e
      exact h2 pins s σ H x y v u Q I rx ry ⟨d1, d2, dat_dp sm ra h3, dat_dp sm rb h4, s1, s2, q⟩
    · cases e
  cases a with
  | non =>
    cases b with
    | non =>
      have e0 : some true = some c0 := e0
      cases e0
      rw [ra.non] at rx; rw [rb.non] at ry
      exact h1 pins s σ H _ _ v u Q I rx ry ⟨rfl, q⟩
    | _ => exact deepC e0
  | int i =>
    cases b with
    | int j =>
      have e0 : some (decide (i = j)) = some c0 := e0
      cases e0
      rw [ra.int] at rx; rw [rb.int] at ry
      refine h1 pins s σ H _ _ v u Q I rx ry ⟨rfl, ?_⟩
      have : decide (V.int i = V.int j) = decide (i = j) := by
        by_cases z : i = j
        · subst z; simp
        · simp [z]
      rw [this]; exact q
    | _ => exact deepC e0
  | bl i =>
    cases b with
    | bl j =>
      have e0 : some (decide (i = j)) = some c0 := e0
      cases e0
      rw [ra.bl] at rx; rw [rb.bl] at ry
      refine h1 pins s σ H _ _ v u Q I rx ry ⟨rfl, ?_⟩
      have : decide (V.bl i = V.bl j) = decide (i = j) := by
        by_cases z : i = j
        · subst z; simp
        · simp [z]
      rw [this]; exact q
    | _ => exact deepC e0
  | str i =>
    cases b with
    | str j =>
      have e0 : some (decide (i = j)) = some c0 := e0
      cases e0
      rw [ra.str] at rx; rw [rb.str] at ry
      refine h1 pins s σ H _ _ v u Q I rx ry ⟨rfl, ?_⟩
      have : decide (V.str i = V.str j) = decide (i = j) := by
        by_cases z : i = j
        · subst z; simp
        · simp [z]
      rw [this]; exact q
    | _ => exact deepC e0
  | _ => exact deepC e0

/-- < and its like -/
theorem ord_ok {op : CmpOp} {g : Val → Val → Option Bool} (h1 : ∀ i j : Int, ∃ c, g (.int i) (.int j) = some c ∧ ∀ (t u : Tok) (s : Shared) (Q E), Q (.bool c) s → wpAny (model X.prog X.w) X.A (compareOp op (.int i t) (.int j u)) Q E s)
    (h2 : ∀ (i j : Str) c, g (.str i) (.str j) = some c → OpR X (compareOp op) (fun x y H Q => x = .str i ∧ y = .str j ∧ Q (.bl c) H))
    (h3 : ∀ a b c, g a b = some c → (∃ i j, a = .int i ∧ b = .int j) ∨ ∃ i j, a = .str i ∧ b = .str j) : OpR X (compareOp op) (r2C X.K scr fun _ a b => g a b) := by
  intro pins s σ H x y v u Q I rx ry h
  obtain ⟨L, S, a, b, c, sm, ra, rb, e, q⟩ := h
  rcases h3 a b c e with ⟨i, j, rfl, rfl⟩ | ⟨i, j, rfl, rfl⟩
  · obtain ⟨c', e', k⟩ := h1 i j
    have e : g (.int i) (.int j) = some c := e
    rw [e'] at e; cases e
    rw [ra.int] at rx; rw [rb.int] at ry
    obtain ⟨t, rfl⟩ := rx
    obtain ⟨t', rfl⟩ := ry
    exact k _ _ _ _ _ ⟨.bl c, H, I, rfl, q⟩
  · exact h2 i j c e pins s σ H x y v u Q I rx ry ⟨ra.str, rb.str, q⟩
theorem lt_sh {a b : Val} {c : Bool} (h : ltVal a b = some c) : (∃ i j, a = .int i ∧ b = .int j) ∨ ∃ i j, a = .str i ∧ b = .str j := by
  cases a <;> cases b <;> first | exact .inl ⟨_, _, rfl, rfl⟩ | exact .inr ⟨_, _, rfl, rfl⟩ | (unfold ltVal at h; cases h)
theorem map_some {o : Option Bool} {c : Bool} (h : o.map (!·) = some c) : ∃ d, o = some d ∧ c = !d := by
  cases o with
  | none => cases h
  | some d => cases h; exact ⟨d, rfl, rfl⟩

theorem dicGet_rep {K : PySem.W.Frag} {L : List Addr} {H : Hp} (k : Key) : ∀ {kvs : List (Key × Val)} {ws : List (Key × V)}, kvs.map (·.1) = ws.map (·.1) → RepL K scr L H (kvs.map (·.2)) (ws.map (·.2)) →
    (dicGet kvs k = none ∧ valV ws k = none) ∨ ∃ d v, dicGet kvs k = some d ∧ valV ws k = some v ∧ Rep K scr L H d v
  | [], [], _, _ => .inl ⟨rfl, rfl⟩
  | [], _ :: _, h, _ => by cases h
  | _ :: _, [], h, _ => by cases h
  | (k1, d1) :: kvs, (k2, v2) :: ws, h, r => by
    rw [List.map_cons, List.map_cons] at h
    have h := List.cons.inj h
    have h1 : k1 = k2 := h.1
    subst h1
    rw [List.map_cons, List.map_cons] at r
    unfold RepL at r
    obtain ⟨v, r', er, r1, r2⟩ := r
    have er := List.cons.inj er
    have e1 : v2 = v := er.1
    have e2 : ws.map (·.2) = r' := er.2
    subst e1 e2
    by_cases hk : k1 = k
    · exact .inr ⟨d1, v2, by unfold dicGet; simp [hk], by unfold valV; simp [hk], r1⟩
    · have g1 : dicGet ((k1, d1) :: kvs) k = dicGet kvs k := by unfold dicGet; simp [List.find?_cons, hk]
      have g2 : valV ((k1, v2) :: ws) k = valV ws k := by unfold valV; simp [List.find?_cons, hk]
      rw [g1, g2]
      exact dicGet_rep k h.2 r2
theorem keyOf_kV {K : PySem.W.Frag} {L : List Addr} {H : Hp} {a : Val} {k : Key} {x : V} (h : keyOf a = some k) (r : Rep K scr L H a x) : x = kV k := by
  cases a with
  | int i => cases h; exact r.int
  | str i => cases h; exact r.str
  | _ => cases h

theorem room_in {A : Around} {d : PyData} {xs : List PyData} (h : SeqAt.shaped d = true) (hu : A.units + 66 < cLine) : A.units + 1 + min (PyData.depthAll xs) d.depth < cLine := by
  have h1 := SeqAt.depth_of_shaped h
  have h2 : min (PyData.depthAll xs) d.depth ≤ d.depth := Nat.min_le_right _ _
  omega
theorem in_ok (hu : X.A.units + 66 < cLine) : OpR X (compareOp .In) (r2C X.K scr inVal) ∧ OpR X (compareOp .NotIn) (r2C X.K scr fun S a b => (inVal S a b).map (!·)) := by
  have core : ∀ (pins : List (Addr × Obj)) (s : Shared) (σ : L2.St) (H : Hp) (x y : V) (v u : Value), Inv X pins σ H s → RelV x v → RelV y u → ∀ L S a b c, Sim X.K scr L S H → Rep X.K scr L H a x → Rep X.K scr L H b y → inVal S a b = some c →
      (∀ Q : VK, Q (.bl c) H → wpAny (model X.prog X.w) X.A (compareOp .In v u) (EP X pins σ Q) X.xe s) ∧ (∀ Q : VK, Q (.bl (!c)) H → wpAny (model X.prog X.w) X.A (compareOp .NotIn v u) (EP X pins σ Q) X.xe s) := by
    intro pins s σ H x y v u I rx ry L S a b c sm ra rb e
    have rowC : inRow (dat S a) (dat S b) = some c → (∀ Q : VK, Q (.bl c) H → wpAny (model X.prog X.w) X.A (compareOp .In v u) (EP X pins σ Q) X.xe s) ∧ (∀ Q : VK, Q (.bl (!c)) H → wpAny (model X.prog X.w) X.A (compareOp .NotIn v u) (EP X pins σ Q) X.xe s) := by
      intro e'
      unfold inRow at e'
      split at e'
      · rename_i d ds h1 h2
        obtain ⟨s1, s2, rfl⟩ := shaped2 e'
        obtain ⟨as, r1⟩ := Dp.reads I d x v (dat_dp sm ra h1) rx
        obtain ⟨bs, r2⟩ := Dp.reads I (.tuple ds) y u (dat_dp sm rb h2) ry
        have hc : PyData.canLayAll0 ds = true := by have := SeqAt.canLay_of_shaped s2; simpa [PyData.canLay0] using this
        exact ⟨fun Q q => SeqAt.in_tuple_reads r2 r1 hc (SeqAt.canLay_of_shaped s1) (room_in s1 hu) ⟨.bl _, H, I, rfl, q⟩,
          fun Q q => SeqAt.notIn_tuple_reads r2 r1 hc (SeqAt.canLay_of_shaped s1) (room_in s1 hu) ⟨.bl _, H, I, rfl, q⟩⟩
      · rename_i d ds h1 h2
        obtain ⟨s1, s2, rfl⟩ := shaped2 e'
        obtain ⟨as, r1⟩ := Dp.reads I d x v (dat_dp sm ra h1) rx
        obtain ⟨bs, r2⟩ := Dp.reads I (.list ds) y u (dat_dp sm rb h2) ry
        have hc : PyData.canLayAll0 ds = true := by have := SeqAt.canLay_of_shaped s2; simpa [PyData.canLay0] using this
        exact ⟨fun Q q => SeqAt.in_list_reads r2 r1 hc (SeqAt.canLay_of_shaped s1) (room_in s1 hu) ⟨.bl _, H, I, rfl, q⟩,
          fun Q q => SeqAt.notIn_list_reads r2 r1 hc (SeqAt.canLay_of_shaped s1) (room_in s1 hu) ⟨.bl _, H, I, rfl, q⟩⟩
      · cases e'
    unfold inVal at e
    split at e
    · rename_i j
      split at e
      · rename_i i
        cases e
        exact ⟨fun Q q => op_in_str pins s σ H x y v u Q I rx ry ⟨i, j, ra.str, rb.str, q⟩, fun Q q => op_notin_str pins s σ H x y v u Q I rx ry ⟨i, j, ra.str, rb.str, q⟩⟩
      · cases e
    · exact rowC e
    · rename_i n
      split at e
      · rename_i kvs h1
        obtain ⟨p, rfl, hp⟩ := rb.loc
        obtain ⟨ws, g1, g2, g3⟩ := sm.dic_at h1 hp
        cases ek : keyOf a with
        | none => rw [ek] at e; cases e
        | some k =>
          rw [ek] at e
          cases e
          have ex := keyOf_kV ek ra
          subst ex
          obtain rfl : u = .ref p := ry
          have gg : DGet H p (kV k) (valV ws k) := DGet.k g1
          have es : (dicGet kvs k).isSome = (valV ws k).isSome := by
            rcases dicGet_rep k g2 g3 with ⟨z1, z2⟩ | ⟨d, w', z1, z2, _⟩ <;> rw [z1, z2] <;> rfl
          show (∀ Q : VK, Q (.bl (dicGet kvs k).isSome) H → _) ∧ (∀ Q : VK, Q (.bl (!(dicGet kvs k).isSome)) H → _)
          rw [es]
          exact ⟨fun Q q => d_in (by omega) I gg rx fun s3 I3 => ⟨.bl _, H, I3, rfl, q⟩, fun Q q => d_notIn (by omega) I gg rx fun s3 I3 => ⟨.bl _, H, I3, rfl, q⟩⟩
      · exact rowC e
    · cases e
  refine ⟨fun pins s σ H x y v u Q I rx ry h => ?_, fun pins s σ H x y v u Q I rx ry h => ?_⟩
  · obtain ⟨L, S, a, b, c, sm, ra, rb, e, q⟩ := h
    exact (core pins s σ H x y v u I rx ry L S a b c sm ra rb e).1 Q q
  · obtain ⟨L, S, a, b, c, sm, ra, rb, e, q⟩ := h
    obtain ⟨d, e2, rfl⟩ := map_some e
    exact (core pins s σ H x y v u I rx ry L S a b d sm ra rb e2).2 Q q
theorem dle (i j : Int) : decide (i ≤ j) = !decide (j < i) := by
  by_cases h : i ≤ j
  · have : ¬ j < i := by omega
    simp [h, this]
  · have : j < i := by omega
    simp [h, this]
theorem cmp_val (hu : X.A.units + 66 < cLine) (op : CmpOp) : OpR X (compareOp op) (r2C X.K scr fun S a b => cmpVal S op a b) := by
  cases op with
  | Eq =>
    have h := eq_ok (X := X) (scr := scr) (op := .Eq) (g := id) op_eq (op_eqD (by omega))
    have e : (fun S a b => (eqVal S a b).map id) = fun S a b => cmpVal S .Eq a b := by
      funext S a b
      show (eqVal S a b).map id = eqVal S a b
      simp
    rw [e] at h
    exact h
  | NotEq => exact eq_ok (X := X) (scr := scr) (op := .NotEq) (g := fun b => !b) op_ne (op_neD (by omega))
  | Lt =>
    exact ord_ok (g := fun a b => ltVal a b) (fun i j => ⟨_, rfl, fun t u s Q E q => lt_int q⟩) (fun i j c e => by
      cases e
      intro pins s σ H x y v u Q I rx ry ⟨h1, h2, q⟩
      exact op_lt_str pins s σ H x y v u Q I rx ry ⟨i, j, h1, h2, q⟩) (fun a b c e => lt_sh e)
  | Gt =>
    exact ord_ok (g := fun a b => ltVal b a) (fun i j => ⟨_, rfl, fun t u s Q E q => gt_int q⟩) (fun i j c e => by
      cases e
      intro pins s σ H x y v u Q I rx ry ⟨h1, h2, q⟩
      exact op_gt_str pins s σ H x y v u Q I rx ry ⟨i, j, h1, h2, q⟩) (fun a b c e => by
        rcases lt_sh e with ⟨i, j, h1, h2⟩ | ⟨i, j, h1, h2⟩
        · exact .inl ⟨j, i, h2, h1⟩
        · exact .inr ⟨j, i, h2, h1⟩)
  | LtE =>
    exact ord_ok (g := fun a b => (ltVal b a).map (!·)) (fun i j => ⟨_, rfl, fun t u s Q E q => le_int (by rw [dle]; exact q)⟩) (fun i j c e => by
      cases e
      intro pins s σ H x y v u Q I rx ry ⟨h1, h2, q⟩
      exact op_le_str pins s σ H x y v u Q I rx ry ⟨i, j, h1, h2, q⟩) (fun a b c e => by
        obtain ⟨d, e, _⟩ := map_some e
        rcases lt_sh e with ⟨i, j, h1, h2⟩ | ⟨i, j, h1, h2⟩
        · exact .inl ⟨j, i, h2, h1⟩
        · exact .inr ⟨j, i, h2, h1⟩)
  | GtE =>
    exact ord_ok (g := fun a b => (ltVal a b).map (!·)) (fun i j => ⟨_, rfl, fun t u s Q E q => ge_int (by
      have e : decide (i ≥ j) = !decide (i < j) := dle j i
      rw [e]; exact q)⟩) (fun i j c e => by
      cases e
      intro pins s σ H x y v u Q I rx ry ⟨h1, h2, q⟩
      exact op_ge_str pins s σ H x y v u Q I rx ry ⟨i, j, h1, h2, q⟩) (fun a b c e => by
        obtain ⟨d, e, _⟩ := map_some e
        exact lt_sh e)
  | In => exact (in_ok hu).1
  | NotIn => exact (in_ok hu).2
  | Is =>
    intro pins s σ H x y v u Q I rx ry h
    obtain ⟨L, S, a, b, c, sm, ra, rb, e, q⟩ := h
    cases b with
    | non =>
      have e : some (decide (a = .non)) = some c := e
      cases e
      rw [relV_rep_ne_non ra] at q
      exact op_isN pins s σ H x y v u Q I rx ry ⟨rb.non, q⟩
    | bl k =>
      have e : some (decide (a = .bl k)) = some c := e
      cases e
      obtain ⟨p1, p2⟩ := rep_eq_bl k ra rx
      rw [rb.bl] at ry
      obtain rfl : u = .bool k := ry
      exact wpAny_is_plain p1 ⟨.bl _, H, I, by rw [p2]; rfl, q⟩
    | _ => unfold cmpVal at e; cases e
  | IsNot =>
    intro pins s σ H x y v u Q I rx ry h
    obtain ⟨L, S, a, b, c, sm, ra, rb, e, q⟩ := h
    cases b with
    | non =>
      have e : some (!decide (a = .non)) = some c := e
      cases e
      rw [relV_rep_ne_non ra] at q
      exact op_notN pins s σ H x y v u Q I rx ry ⟨rb.non, q⟩
    | bl k =>
      have e : some (!decide (a = .bl k)) = some c := e
      cases e
      obtain ⟨p1, p2⟩ := rep_eq_bl k ra rx
      rw [rb.bl] at ry
      obtain rfl : u = .bool k := ry
      exact wpAny_isNot_plain p1 ⟨.bl _, H, I, by rw [p2]; rfl, q⟩
    | _ => unfold cmpVal at e; cases e
theorem cmp_ok (hu : X.A.units + 66 < cLine) (op : CmpOp) : OpR X (compareOp op) (r2M X.K scr (cmpV op)) := by
  intro pins s σ H x y v u Q I rx ry h
  obtain ⟨L, S, a, b, d, S', sm, ra, rb, e, q⟩ := h
  unfold cmpV at e
  split at e
  · rename_i c h1
    cases e
    exact cmp_val hu op pins s σ H x y v u Q I rx ry ⟨L, S, a, b, c, sm, ra, rb, h1, q.here sm rep_bl⟩
  · cases e

/-! ### truth -/
theorem tru_val {K : PySem.W.Frag} {L : List Addr} {H : Hp} {S : Sto} {a : Val} {x : V} {c : Bool} (sm : Sim K scr L S H) (r : Rep K scr L H a x) (e : truth S a = some c) : TruV K x H c := by
  cases a with
  | non => cases e; rw [r.non]; unfold TruV; rfl
  | bl b => cases e; rw [r.bl]; unfold TruV; rfl
  | int b => cases e; rw [r.int]; unfold TruV; rfl
  | str b =>
    have e : (if b.length ≤ sizeLine then some (b.length != 0) else none) = some c := e
    by_cases hz : b.length ≤ sizeLine
    · rw [if_pos hz] at e; cases e; rw [r.str]; unfold TruV; exact ⟨hz, by
        cases b.length with
        | zero => rfl
        | succ n => rfl⟩
    · rw [if_neg hz] at e; cases e
  | tup b =>
    cases e
    obtain ⟨p, vs, rfl, ta, rl⟩ := r.tup
    unfold TruV
    refine .inr (.inl ⟨vs, ta.sq, ?_⟩)
    have := rl.length
    cases b <;> cases vs <;> first | rfl | (simp at this)
  | loc n =>
    obtain ⟨p, rfl, hp⟩ := r.loc
    have e : (match S[n]? with
      | some (.lst xs) => some (!xs.isEmpty)
      | some (.dic kvs) => some (!kvs.isEmpty)
      | none => none) = some c := e
    unfold TruV
    split at e
    · rename_i xs h1
      cases e
      obtain ⟨vs, g1, rl⟩ := sm.lst_at h1 hp
      refine .inl ⟨vs, SqL.of g1, ?_⟩
      have := rl.length
      cases xs <;> cases vs <;> first | rfl | (simp at this)
    · rename_i kvs h1
      cases e
      obtain ⟨ws, g1, g2, _⟩ := sm.dic_at h1 hp
      refine .inr (.inr ⟨ws, g1, ?_⟩)
      cases kvs <;> cases ws <;> first | rfl | (simp at g2)
    · cases e
  | _ => cases e

/-! ### subscripts -/
theorem atI_rep {K : PySem.W.Frag} {L : List Addr} {H : Hp} {xs : List Val} {vs : List V} {k : Int} {d : Val} (r : RepL K scr L H xs vs) (e : atI xs k = some d) : ∃ v, atI vs k = some v ∧ Rep K scr L H d v := by
  unfold atI at e ⊢
  rw [r.length]
  cases ei : ixN xs.length k with
  | none => rw [ei] at e; cases e
  | some j =>
    rw [ei] at e
    obtain ⟨v, h1, h2⟩ := r.get (i := j) e
    exact ⟨v, h1, h2⟩
def rIdx (K : PySem.W.Frag) (scr : List Int) : R2 := r2M K scr idxV
theorem idx_cases {K : PySem.W.Frag} {L : List Addr} {H : Hp} {S S' : Sto} {a b d : Val} {x y : V} (sm : Sim K scr L S H) (ra : Rep K scr L H a x) (rb : Rep K scr L H b y) (e : idxV a b S = .ok d S') :
    S' = S ∧ ((∃ z i c, x = .str z ∧ y = .int i ∧ z.length ≤ sizeLine ∧ atI z.cps.toList i = some c ∧ d = .str ⟨#[c]⟩) ∨ (∃ p vs i v, x = .ref p ∧ y = .int i ∧ SqT K H p vs ∧ atI vs i = some v ∧ Rep K scr L H d v) ∨
      (∃ p vs i v, x = .ref p ∧ y = .int i ∧ SqL K H p vs ∧ atI vs i = some v ∧ Rep K scr L H d v) ∨ ∃ p v, x = .ref p ∧ DGet H p y (some v) ∧ Rep K scr L H d v) := by
  unfold idxV at e
  split at e
  · rename_i z k
    by_cases hz : z.length ≤ sizeLine
    · rw [if_pos hz] at e
      split at e
      · rename_i c h1
        cases e
        exact ⟨rfl, .inl ⟨z, k, c, ra.str, rb.int, hz, h1, rfl⟩⟩
      · cases e
    · rw [if_neg hz] at e; cases e
  · rename_i xs k
    split at e
    · rename_i v h1
      cases e
      obtain ⟨p, vs, hx, ta, rl⟩ := ra.tup
      obtain ⟨w', h2, h3⟩ := atI_rep rl h1
      exact ⟨rfl, .inr (.inl ⟨p, vs, k, w', hx, rb.int, ta.sq, h2, h3⟩)⟩
    · cases e
  · rename_i n k
    obtain ⟨p, hx, hp⟩ := ra.loc
    split at e
    · rename_i xs k h1
      split at e
      · rename_i v h2
        cases e
        obtain ⟨vs, g1, rl⟩ := sm.lst_at h1 hp
        obtain ⟨w', h2, h3⟩ := atI_rep rl h2
        exact ⟨rfl, .inr (.inr (.inl ⟨p, vs, k, w', hx, rb.int, SqL.of g1, h2, h3⟩))⟩
      · cases e
    · rename_i kvs k h1
      split at e
      · rename_i kk h2
        split at e
        · rename_i v h3
          cases e
          obtain ⟨ws, g1, g2, g3⟩ := sm.dic_at h1 hp
          have ey := keyOf_kV h2 rb
          subst ey
          rcases dicGet_rep kk g2 g3 with ⟨z1, z2⟩ | ⟨d', w', z1, z2, z3⟩
          · rw [z1] at h3; cases h3
          · rw [z1] at h3; cases h3
            exact ⟨rfl, .inr (.inr (.inr ⟨p, w', hx, by rw [← z2]; exact DGet.k g1, z3⟩))⟩
        · cases e
      · cases e
    · cases e
  · cases e
theorem idx_get (hu : X.A.units + 66 < cLine) : IxR X (rIdx X.K scr) := by
  intro value slice pins s σ H x y v u Q I rx ry h hs
  obtain ⟨L, S, a, b, d, S', sm, ra, rb, e, q⟩ := h
  obtain ⟨rfl, h⟩ := idx_cases sm ra rb e
  rcases h with ⟨z, i, c, hx, hy, hz, h1, rfl⟩ | ⟨p, vs, i, w', hx, hy, h1, h2, h3⟩ | ⟨p, vs, i, w', hx, hy, h1, h2, h3⟩ | ⟨p, w', rfl, h1, h3⟩
  · exact ix_str value slice pins s σ H x y v u Q I rx ry ⟨z, i, c, hx, hy, hz, h1, q.here sm rep_str⟩ hs
  · exact ix_tup value slice pins s σ H x y v u Q I rx ry ⟨p, vs, i, w', hx, hy, h1, h2, q.here sm h3⟩ hs
  · exact ix_list value slice pins s σ H x y v u Q I rx ry ⟨p, vs, i, w', hx, hy, h1, h2, q.here sm h3⟩ hs
  · obtain rfl : v = .ref p := rx
    exact tail_any (dict_typeIs I h1) PySem.F.slot_dict_getitem.lookup (d_getItem (by omega) I h1 ry fun w'' s3 I3 rw' => ⟨w', H, I3, rw', q.here sm h3⟩) hs
end
end Ev

end

section
set_option maxHeartbeats 1000000
/-! Ev4: slices, stores, built-ins and methods by values. -/
namespace Ev
open PySem L2 PyProof.Rows

section
variable {X : Cx} {scr : List Int}
theorem cut_rep {K : PySem.W.Frag} {L : List Addr} {H : Hp} {xs : List Val} {vs : List V} (lo hi : Option Int) (r : RepL K scr L H xs vs) : RepL K scr L H (cut xs lo hi) (cutV vs lo hi) := by
  unfold cut cutV
  rw [r.length]
  exact (r.drop _).take _
theorem cut_whole {K : PySem.W.Frag} {L : List Addr} {H : Hp} {xs : List Val} {vs : List V} {lo hi : Option Int} (r : RepL K scr L H xs vs) (h : HT.sIx vs.length 0 lo = 0 ∧ HT.sIx vs.length vs.length hi = vs.length) : cut xs lo hi = xs := by
  have l := r.length
  unfold cut
  rw [l] at h
  rw [h.1, h.2]
  simp
/-- a[lo:hi], by values: the ends are ints or left out -/
def rSli (K : PySem.W.Frag) (scr : List Int) : V → Option Int → Option Int → Hp → VK → Prop := fun x lo hi H Q => ∃ L S a d S', Sim K scr L S H ∧ Rep K scr L H a x ∧
  sliV scr a lo hi S = .ok d S' ∧ Post K scr L H d S' Q
theorem sli_ok : SlR X (rSli X.K scr) := by
  intro pins s σ H x v vl vu lo hi sl Q I rx hs pl pu h
  obtain ⟨L, S, a, d, S', sm, ra, e, q⟩ := h
  unfold sliV at e
  cases a with
  | str z =>
    have e : (if z.length ≤ sizeLine then (pure (.str ⟨(cut z.cps.toList lo hi).toArray⟩) : M Val) else bad) S = .ok d S' := e
    by_cases hz : z.length ≤ sizeLine
    · rw [if_pos hz] at e
      obtain ⟨e1, e2⟩ := ok_pure e
      subst e1 e2
      refine sl_str pins s σ H x v vl vu lo hi sl Q I rx hs pl pu ⟨z, ra.str, hz, ?_⟩
      exact q.here sm (by unfold Rep; unfold cutS cut; simp [Str.length])
    · rw [if_neg hz] at e; exact (ok_bad e).elim
  | tup xs =>
    have e : (pure (.tup (cut xs lo hi)) : M Val) S = .ok d S' := e
    obtain ⟨e1, e2⟩ := ok_pure e
    subst e1 e2
    obtain ⟨p, vs, hx, ta, rl⟩ := ra.tup
    refine sl_tupF pins s σ H x v vl vu lo hi sl Q I rx hs pl pu ⟨p, vs, hx, ta.sq, fun hw => ?_, fun _ => q.tup sm (cut_rep lo hi rl)⟩
    rw [cut_whole rl hw] at q
    exact q.here sm (by rw [← hx]; exact ra)
  | loc n =>
    have e : (match S[n]? with
      | some (.lst xs) => alloc (.lst (cut xs lo hi)) S
      | _ => .bad) = Out.ok d S' := e
    split at e
    · rename_i xs h1
      cases e
      obtain ⟨p, hx, hp⟩ := ra.loc
      obtain ⟨vs, g1, rl⟩ := sm.lst_at h1 hp
      exact sl_list pins s σ H x v vl vu lo hi sl Q I rx hs pl pu ⟨p, vs, hx, SqL.of g1, fun p' hp' => q.lst sm hp' (cut_rep lo hi rl)⟩
    · cases e
  | scr =>
    have e : Out.ok (Val.loc S.length) (S ++ [.lst (cut (scr.map .int) lo hi)]) = Out.ok d S' := e
    cases e
    obtain ⟨p, hx, hp⟩ := ra.ofScr
    exact sl_list pins s σ H x v vl vu lo hi sl Q I rx hs pl pu ⟨p, _, hx, hp.sq, fun p' hp' => q.lst sm hp' (cut_rep lo hi (RepL.ints scr))⟩
  | _ => exact (ok_bad (S := S) e).elim

/-! ### a[i] = v -/
theorem dicPut_rep {K : PySem.W.Frag} {L : List Addr} {H : Hp} {k : Key} {d : Val} {v : V} {kvs : List (Key × Val)} {ws : List (Key × V)} (h : kvs.map (·.1) = ws.map (·.1)) (r : RepL K scr L H (kvs.map (·.2)) (ws.map (·.2))) (rd : Rep K scr L H d v) :
    (dicPut kvs k d).map (·.1) = (putK ws k v).map (·.1) ∧ RepL K scr L H ((dicPut kvs k d).map (·.2)) ((putK ws k v).map (·.2)) := by
  have any : ∀ {kvs : List (Key × Val)} {ws : List (Key × V)}, kvs.map (·.1) = ws.map (·.1) → (kvs.any fun kv => decide (kv.1 = k)) = ws.any fun kv => decide (kv.1 = k) := by
    intro kvs ws h
    have e1 : (kvs.any fun kv => decide (kv.1 = k)) = (kvs.map (·.1)).any fun z => decide (z = k) := by rw [List.any_map]; rfl
    have e2 : (ws.any fun kv => decide (kv.1 = k)) = (ws.map (·.1)).any fun z => decide (z = k) := by rw [List.any_map]; rfl
    rw [e1, e2, h]
  have mp : ∀ {kvs : List (Key × Val)} {ws : List (Key × V)}, kvs.map (·.1) = ws.map (·.1) → RepL K scr L H (kvs.map (·.2)) (ws.map (·.2)) →
      (kvs.map (fun kv => if kv.1 = k then (kv.1, d) else kv)).map (·.1) = (ws.map (fun kv => if kv.1 = k then (kv.1, v) else kv)).map (·.1) ∧
      RepL K scr L H ((kvs.map (fun kv => if kv.1 = k then (kv.1, d) else kv)).map (·.2)) ((ws.map (fun kv => if kv.1 = k then (kv.1, v) else kv)).map (·.2)) := by
    intro kvs
    induction kvs with
    | nil =>
      intro ws h r
      cases ws with
      | nil => exact ⟨rfl, RepL.nil⟩
      | cons _ _ => cases h
    | cons p kvs ih =>
      intro ws h r
      cases ws with
      | nil => cases h
      | cons q ws =>
        rw [List.map_cons, List.map_cons] at h r
        have h := List.cons.inj h
        unfold RepL at r
        obtain ⟨v1, r1, er, ra, rb⟩ := r
        have er := List.cons.inj er
        rw [← er.1] at ra
        rw [← er.2] at rb
        obtain ⟨i1, i2⟩ := ih h.2 rb
        simp only [List.map_cons]
        by_cases hk : p.1 = k
        · have hk' : q.1 = k := h.1.symm.trans hk
          rw [if_pos hk, if_pos hk']
          exact ⟨by rw [i1, h.1], RepL.cons rd i2⟩
        · have hk' : ¬ q.1 = k := fun z => hk (h.1.trans z)
          rw [if_neg hk, if_neg hk']
          exact ⟨by rw [i1, h.1], RepL.cons ra i2⟩
  unfold dicPut putK
  rw [any h]
  by_cases hc : (ws.any fun kv => decide (kv.1 = k)) = true
  · rw [if_pos hc, if_pos hc]
    exact mp h r
  · rw [if_neg hc, if_neg hc]
    simp only [List.map_append, List.map_cons, List.map_nil]
    exact ⟨by rw [h], r.append (RepL.cons rd RepL.nil)⟩
def rSet (K : PySem.W.Frag) (scr : List Int) : TSet := fun o i v H Q => ∃ L S a b d S', Sim K scr L S H ∧ Rep K scr L H a o ∧ Rep K scr L H b i ∧ Rep K scr L H d v ∧ setV a b d S = .ok () S' ∧ ∀ L' H', Sim K scr L' S' H' → Ext L H L' H' → Q H'
theorem set_ok (hu : X.A.units + 66 < cLine) : PSet X (rSet X.K scr) := by
  intro pins s σ H o i v ov iv u Q I ro ri rv h
  obtain ⟨L, S, a, b, d, S', sm, ra, rb, rd, e, q⟩ := h
  unfold setV at e
  cases a with
  | loc n =>
    dsimp only at e
    obtain ⟨p, hx, hp⟩ := ra.loc
    split at e
    · rename_i xs h1
      split at e
      · rename_i k
        split at e
        · rename_i j h2
          cases e
          obtain ⟨vs, g1, rl⟩ := sm.lst_at h1 hp
          rw [← rl.length] at h2
          refine set_list pins s σ H o i v ov iv u Q I ro ri rv ⟨p, vs, k, j, hx, rb.int, g1, h2, ?_⟩
          obtain ⟨e', s'⟩ := sm.put (o := .lst (vs.set j v)) (ob := .lst (xs.set j d)) hp (ObR.of_lst (rl.set j rd))
          exact q _ _ s' e'
        · cases e
      · cases e
    · rename_i kvs h1
      split at e
      · rename_i k hk
        by_cases hz : kvs.length < sizeLine
        · rw [if_pos hz] at e
          cases e
          obtain ⟨ws, g1, g2, g3⟩ := sm.dic_at h1 hp
          have ey := keyOf_kV hk rb
          subst hx ey
          obtain rfl : ov = .ref p := ro
          have hl : ws.length = kvs.length := by have := congrArg List.length g2; simpa using this.symm
          refine d_setItem (H' := upd H p (.dK (putK ws k v))) (by omega) I (.inl ⟨ws, k, g1, rfl, by rw [hl]; exact hz, rfl⟩) ri rv fun s' I' => ⟨_, I', ?_⟩
          obtain ⟨z1, z2⟩ := dicPut_rep (k := k) g2 g3 rd
          obtain ⟨e', s'⟩ := sm.put (o := .dK (putK ws k v)) (ob := .dic (dicPut kvs k d)) hp (fun L' H' e' h' => ⟨_, h', z1, z2.mono e'⟩)
          exact q _ _ s' e'
        · rw [if_neg hz] at e; cases e
      · cases e
    · cases e
  | _ => cases e
/-- a[i] ahead of a[i] op= e -/
theorem get_ok (hu : X.A.units + 66 < cLine) : PGet X (fun x y H Q => ∃ L S n b d S', Sim X.K scr L S H ∧ Rep X.K scr L H (.loc n) x ∧ Rep X.K scr L H b y ∧ idxV (.loc n) b S = .ok d S' ∧ Post X.K scr L H d S' Q) := by
  intro pins s σ H x y v u Q I rx ry h
  obtain ⟨L, S, n, b, d, S', sm, ra, rb, e, q⟩ := h
  obtain ⟨rfl, h⟩ := idx_cases sm ra rb e
  obtain ⟨p0, hx0, _⟩ := ra.loc
  rcases h with ⟨z, i, c, hx, _⟩ | ⟨p, vs, i, w', hx, hy, h1, h2, h3⟩ | ⟨p, vs, i, w', hx, hy, h1, h2, h3⟩ | ⟨p, w', hx, h1, h3⟩
  · rw [hx0] at hx; cases hx
  · subst hx hy
    obtain rfl : v = .ref p := rx
    obtain ⟨t, rfl⟩ := ry
    obtain ⟨its, r, ht, hz⟩ := I.tuple h1
    obtain ⟨j, g1, g2, g3, g4, g5⟩ := atI_get h2
    obtain ⟨w'', ew, rw'⟩ := r.get g2
    have hl := r.length
    have hn := line63
    exact PyProof.Rows.getItem_tuple ht (by omega) (by omega) (by rw [List.size_toArray, ← hl]; exact g1) (by simpa using ew) ⟨w', H, I, rw', q.here sm h3⟩
  · subst hx hy
    obtain rfl : v = .ref p := rx
    obtain ⟨t, rfl⟩ := ry
    obtain ⟨its, r, pl, hz⟩ := I.list h1
    obtain ⟨j, g1, g2, g3, g4, g5⟩ := atI_get h2
    obtain ⟨w'', ew, rw'⟩ := r.get g2
    have hl := r.length
    have hn := line63
    have fin : EP X pins σ Q w'' s := ⟨w', H, I, rw', q.here sm h3⟩
    by_cases h0 : 0 ≤ i
    · have hj : i.toNat = j := by
        rw [seqIndex_of h0 g5] at g1
        exact Option.some.inj g1
      exact wpAny_getItem_list pl.isList h0 (by omega) (by rw [hj]; simpa using ew) fin
    · have hj : (i + (its.toArray.size : Int)).toNat = j := by
        rw [seqIndex_neg (by omega) g4] at g1
        rw [List.size_toArray, ← hl]
        exact Option.some.inj g1
      exact wpAny_getItem_list_neg pl.isList (by omega) (by rw [List.size_toArray] <;> omega) (by omega) (by rw [hj]; simpa using ew) fin
  · subst hx
    obtain rfl : v = .ref p := rx
    exact d_getItem (by omega) I h1 ry fun w'' s3 I3 rw' => ⟨w', H, I3, rw', q.here sm h3⟩

/-! ### built-ins -/
def rB (K : PySem.W.Frag) (scr : List Int) (f : List Val → M Val) : List V → Hp → VK → Prop := fun vs H Q => ∃ L S ds d S', Sim K scr L S H ∧ RepL K scr L H ds vs ∧ f ds S = .ok d S' ∧ Post K scr L H d S' Q
theorem RepL.one {K : PySem.W.Frag} {L : List Addr} {H : Hp} {d : Val} {vs : List V} (h : RepL K scr L H [d] vs) : ∃ v, vs = [v] ∧ Rep K scr L H d v := by
  unfold RepL at h
  obtain ⟨v, r, rfl, h1, h2⟩ := h
  unfold RepL at h2
  subst h2
  exact ⟨v, rfl, h1⟩
theorem RepL.two {K : PySem.W.Frag} {L : List Addr} {H : Hp} {d e : Val} {vs : List V} (h : RepL K scr L H [d, e] vs) : ∃ v w, vs = [v, w] ∧ Rep K scr L H d v ∧ Rep K scr L H e w := by
  unfold RepL at h
  obtain ⟨v, r, rfl, h1, h2⟩ := h
  obtain ⟨w, rfl, h3⟩ := h2.one
  exact ⟨v, w, rfl, h1, h3⟩
theorem len_ok : CallR X (.builtin "len") (rB X.K scr lenV) := by
  intro pins s σ H xs us Q I r h
  obtain ⟨L, S, ds, d, S', sm, rd, e, q⟩ := h
  unfold lenV at e
  split at e
  · rename_i x
    by_cases hz : x.length ≤ sizeLine
    · rw [if_pos hz] at e
      cases e
      obtain ⟨v, rfl, rv⟩ := rd.one
      rw [rv.str] at r
      exact call_len pins s σ H _ us Q I r ⟨_, x.length, rfl, ⟨hz, rfl⟩, q.here sm rep_int⟩
    · rw [if_neg hz] at e; cases e
  · rename_i ys
    cases e
    obtain ⟨v, rfl, rv⟩ := rd.one
    obtain ⟨p, vs, rfl, ta, rl⟩ := rv.tup
    exact call_len pins s σ H _ us Q I r ⟨_, ys.length, rfl, .inr ⟨vs, ta.sq, rl.length.symm⟩, q.here sm rep_int⟩
  · rename_i n
    obtain ⟨v, rfl, rv⟩ := rd.one
    obtain ⟨p, rfl, hp⟩ := rv.loc
    split at e
    · rename_i ys h1
      cases e
      obtain ⟨vs, g1, rl⟩ := sm.lst_at h1 hp
      exact call_len pins s σ H _ us Q I r ⟨_, ys.length, rfl, .inl ⟨vs, SqL.of g1, rl.length.symm⟩, q.here sm rep_int⟩
    · rename_i kvs h1
      cases e
      obtain ⟨ws, g1, g2, g3⟩ := sm.dic_at h1 hp
      have hl : ws.length = kvs.length := by have := congrArg List.length g2; simpa using this.symm
      exact call_lenD pins s σ H _ us Q I r ⟨p, ws, rfl, g1, by rw [hl]; exact q.here sm rep_int⟩
    · cases e
  · cases e
theorem tyX_of {K : PySem.W.Frag} {L : List Addr} {H : Hp} {S : Sto} {a : Val} {x : V} {n : String} (sm : Sim K scr L S H) (r : Rep K scr L H a x) (e : tyName S a = some n) : TyX K H x (.type n) := by
  cases a with
  | non => cases e; rw [r.non]; exact .base .non
  | bl b => cases e; rw [r.bl]; exact .base (.bl b)
  | int b => cases e; rw [r.int]; exact .base (.int b)
  | str b => cases e; rw [r.str]; exact .base (.str b)
  | tup b =>
    cases e
    obtain ⟨p, vs, rfl, ta, rl⟩ := r.tup
    obtain ⟨o, h, _⟩ := ta
    exact .fTuple h
  | loc m =>
    obtain ⟨p, rfl, hp⟩ := r.loc
    have e : (match S[m]? with
      | some (.lst _) => some "list"
      | some (.dic _) => some "dict"
      | none => none) = some n := e
    split at e
    · rename_i xs h1
      cases e
      obtain ⟨vs, g1, rl⟩ := sm.lst_at h1 hp
      exact .base (.lst g1)
    · rename_i kvs h1
      cases e
      obtain ⟨ws, g1, _⟩ := sm.dic_at h1 hp
      exact .base (.dK g1)
    · cases e
  | scr =>
    cases e
    obtain ⟨p, rfl, hp⟩ := r.ofScr
    rcases hp with ⟨o, h, _⟩ | ⟨o, its, k, h1, h2, _⟩
    · exact .base (.frz h)
    · exact .kList h1 h2
  | ty n => cases e
theorem isTys_ok {K : PySem.W.Frag} {L : List Addr} {H : Hp} {a : String} : ∀ {bs : List Val} {vs : List V} {c : Bool}, RepL K scr L H bs vs → isTys a bs = some c → ∃ us, Paired ClsV vs us ∧ PySem.W.kitAny K (.type a) us = some c
  | [], vs, c, r, e => by
    unfold RepL at r
    subst r
    cases e
    exact ⟨[], .nil, rfl⟩
  | b :: bs, vs, c, r, e => by
    unfold RepL at r
    obtain ⟨v, r', rfl, r1, r2⟩ := r
    cases b with
    | ty n =>
      rw [r1.ty]
      unfold isTys at e
      split at e
      · rename_i c1 d1 h1 h2
        cases e
        obtain ⟨us, p1, p2⟩ := isTys_ok r2 h2
        refine ⟨.type n :: us, .cons (.ty n) p1, kitAny_cons (kit_ty h1) (fun z => ?_) (fun z => ?_)⟩
        · rw [z]; simpa using p2
        · rw [z]; rfl
      · cases e
    | _ => cases e
theorem call_isiF : CallR X (.builtin "isinstance") (fun xs H Q => ∃ x tp cs t ws b, xs = [x, V.ref tp] ∧ SqT X.K H tp cs ∧ Paired ClsV cs ws ∧ TyX X.K H x t ∧ PySem.W.kitAny X.K t ws = some b ∧ Q (.bl b) H) := by
  intro pins s σ H xs us Q I r h
  obtain ⟨x, tp, cs, t, ws, b, rfl, hT, k, ty, e, q⟩ := h
  obtain ⟨u1, u2, rfl, r1, r2⟩ := vals2 r
  obtain rfl : u2 = Value.ref tp := r2
  obtain ⟨P, Z, p, hx⟩ := kit_of I r1 ty
  obtain ⟨its, rv, ⟨⟨oc, od, dt, sl⟩, h1, h2, n, h3⟩, _⟩ := I.tuple hT
  obtain rfl := ClsV.all k rv
  simp only at h2 h3
  subst h2 h3
  exact PySem.W.kia_tup Z I.kIn p h1 e hx fun tk => ⟨.bl b, H, I.tok tk, rfl, q⟩
theorem isi_ok : CallR X (.builtin "isinstance") (rB X.K scr isiV) := by
  intro pins s σ H xs us Q I r h
  obtain ⟨L, S, ds, d, S', sm, rd, e, q⟩ := h
  unfold isiV at e
  split at e
  · rename_i v c
    obtain ⟨x, y, rfl, rx, ry⟩ := rd.two
    split at e
    · rename_i a h1
      split at e
      · rename_i b
        split at e
        · rename_i k h2
          cases e
          rw [ry.ty] at r
          exact call_isi pins s σ H _ us Q I r ⟨x, _, .type a, .type b, k, rfl, .ty b, tyX_of sm rx h1, kit_ty h2, q.here sm rep_bl⟩
        · cases e
      · rename_i bs
        split at e
        · rename_i k h2
          cases e
          obtain ⟨p, vs, rfl, ta, rl⟩ := ry.tup
          obtain ⟨us', p1, p2⟩ := isTys_ok (K := X.K) rl h2
          exact call_isiF pins s σ H _ us Q I r ⟨x, p, vs, .type a, us', k, rfl, ta.sq, p1, tyX_of sm rx h1, p2, q.here sm rep_bl⟩
        · cases e
      · cases e
    · cases e
  · cases e
theorem abs_ok : CallR X (.builtin "abs") (rB X.K scr absV) := by
  intro pins s σ H xs us Q I r h
  obtain ⟨L, S, ds, d, S', sm, rd, e, q⟩ := h
  unfold absV at e
  split at e
  · rename_i i
    obtain ⟨e1, e2⟩ := ok_pure e
    subst e1 e2
    obtain ⟨v, rfl, rv⟩ := rd.one
    rw [rv.int] at r
    exact call_abs pins s σ H _ us Q I r ⟨i, rfl, q.here sm rep_int⟩
  · exact (ok_bad e).elim
theorem min_ok (hc : X.calm = true) : CallR X (.builtin "min") (rB X.K scr minV) := by
  intro pins s σ H xs us Q I r h
  obtain ⟨L, S, ds, d, S', sm, rd, e, q⟩ := h
  unfold minV at e
  split at e
  · rename_i i j
    obtain ⟨e1, e2⟩ := ok_pure e
    subst e1 e2
    obtain ⟨v, w, rfl, rv, rw'⟩ := rd.two
    rw [rv.int, rw'.int] at r
    exact call_min2 hc pins s σ H _ us Q I r ⟨i, j, rfl, q.here sm rep_int⟩
  · exact (ok_bad e).elim
theorem max_ok (hc : X.calm = true) : CallR X (.builtin "max") (rB X.K scr maxV) := by
  intro pins s σ H xs us Q I r h
  obtain ⟨L, S, ds, d, S', sm, rd, e, q⟩ := h
  unfold maxV at e
  split at e
  · rename_i i j
    obtain ⟨e1, e2⟩ := ok_pure e
    subst e1 e2
    obtain ⟨v, w, rfl, rv, rw'⟩ := rd.two
    rw [rv.int, rw'.int] at r
    exact call_max2 hc pins s σ H _ us Q I r ⟨i, j, rfl, q.here sm rep_int⟩
  · exact (ok_bad e).elim
theorem int_ok : CallR X (.type "int") (rB X.K scr intV) := by
  intro pins s σ H xs us Q I r h
  obtain ⟨L, S, ds, d, S', sm, rd, e, q⟩ := h
  unfold intV at e
  split at e
  · rename_i i
    obtain ⟨e1, e2⟩ := ok_pure e
    subst e1 e2
    obtain ⟨v, rfl, rv⟩ := rd.one
    rw [rv.int] at r
    exact call_int1 pins s σ H _ us Q I r (.inl ⟨i, rfl, q.here sm rep_int⟩)
  · rename_i b
    obtain ⟨e1, e2⟩ := ok_pure e
    subst e1 e2
    obtain ⟨v, rfl, rv⟩ := rd.one
    rw [rv.bl] at r
    exact call_int1 pins s σ H _ us Q I r (.inr ⟨b, rfl, q.here sm rep_int⟩)
  · exact (ok_bad e).elim
theorem str_ok : CallR X (.type "str") (rB X.K scr strV) := by
  intro pins s σ H xs us Q I r h
  obtain ⟨L, S, ds, d, S', sm, rd, e, q⟩ := h
  unfold strV at e
  split at e
  · rename_i i
    by_cases hz : i.natAbs.log2 < 1920
    · rw [if_pos hz] at e
      obtain ⟨e1, e2⟩ := ok_pure e
      subst e1 e2
      obtain ⟨v, rfl, rv⟩ := rd.one
      rw [rv.int] at r
      exact call_str_int pins s σ H _ us Q I r ⟨i, rfl, hz, q.here sm rep_str⟩
    · rw [if_neg hz] at e; exact (ok_bad e).elim
  · exact (ok_bad e).elim
end
end Ev

end

section
set_option maxHeartbeats 1000000
/-! Ev5: repr, sequences' built-ins, methods by values. -/
namespace Ev
open PySem L2 PyProof.Rows

section
variable {X : Cx} {scr : List Int}
theorem mapM_noDict {S : Sto} {n : Nat} (ih : ∀ (d : Val) (y : PyData), deep n S d = some y → y.hasDict = false) : ∀ (xs : List Val) (ys : List PyData), xs.mapM (deep n S) = some ys → PyData.hasDictAll ys = false := by
  intro xs
  induction xs with
  | nil => intro ys e; simp at e; subst e; rfl
  | cons x xs ihx =>
    intro ys e
    rw [List.mapM_cons] at e
    cases e1 : deep n S x with
    | none => rw [e1] at e; cases e
    | some y =>
      rw [e1] at e
      cases e2 : xs.mapM (deep n S) with
      | none => rw [e2] at e; cases e
      | some zs =>
        rw [e2] at e
        cases e
        unfold PyData.hasDictAll
        rw [ih x y e1, ihx zs e2]
        rfl
theorem deep_noDict (S : Sto) : ∀ (n : Nat) (d : Val) (y : PyData), deep n S d = some y → y.hasDict = false := by
  intro n
  induction n with
  | zero =>
    intro d y e
    cases d <;> (unfold deep at e; cases e) <;> rfl
  | succ n ih =>
    intro d y e
    cases d with
    | tup xs =>
      unfold deep at e
      cases e2 : xs.mapM (deep n S) with
      | none => rw [e2] at e; cases e
      | some zs =>
        rw [e2] at e
        cases e
        unfold PyData.hasDict
        exact mapM_noDict ih xs zs e2
    | loc m =>
      unfold deep at e
      split at e
      · rename_i xs h1
        cases e2 : xs.mapM (deep n S) with
        | none => rw [e2] at e; cases e
        | some zs =>
          rw [e2] at e
          cases e
          unfold PyData.hasDict
          exact mapM_noDict ih xs zs e2
      · cases e
    | _ => (unfold deep at e; cases e) <;> rfl
theorem repr_ok (hg : X.A.guards = some []) (hu : X.A.units + 66 < cLine) : CallR X (.builtin "repr") (rB X.K scr reprV) := by
  intro pins s σ H xs us Q I r h
  obtain ⟨L, S, ds, d, S', sm, rd, e, q⟩ := h
  unfold reprV at e
  split at e
  · rename_i v
    split at e
    · rename_i y h1
      by_cases hz : (y.showable && decide (y.shown.length ≤ sizeLine) && decide (y.depth ≤ 64)) = true
      · rw [if_pos hz] at e
        cases e
        rw [Bool.and_eq_true, Bool.and_eq_true] at hz
        obtain ⟨⟨z1, z2⟩, z3⟩ := hz
        have z2 := of_decide_eq_true z2
        have z3 := of_decide_eq_true z3
        obtain ⟨x, rfl, rv⟩ := rd.one
        obtain ⟨u, rfl, ru⟩ := vals1 r
        have nd : y.hasDict = false := by unfold dat at h1; exact deep_noDict S _ v y h1
        have hd := dat_dp sm rv h1
        obtain ⟨as, rr⟩ := Dp.reads I y x u hd ru
        have fin : ∀ h' t tk, (∀ b o, s.heap.get? b = some o → h'.get? b = some o) → EP X pins σ Q (.str y.shown t) { s with heap := h', toks := tk } := fun h' t tk hk =>
          ⟨.str y.shown, H, I.kept hk, ⟨_, rfl⟩, q.here sm rep_str⟩
        have fin0 : ∀ t tk, EP X pins σ Q (.str y.shown t) { s with toks := tk } := fun t tk => fin s.heap t tk fun _ _ z => z
        cases rr with
        | none => exact PySem.P.repr_of_none (fin0 _ _)
        | bool b => exact PySem.P.repr_of_bool (fin0 _ _)
        | int i t => exact PySem.P.repr_of_int (by simpa [PyData.showable] using z1) (fin0 _ _)
        | str z t => exact PySem.P.repr_of_str (fin0 _ _) (by simpa [PyData.shown] using z2)
        | list k1 k2 k3 k4 => exact repr_of_reads' (.list k1 k2 k3 k4) z1 (PyData.noDict_hsm nd) hg (by omega) (fun _ _ z => z) (fun h' t tk hk => fin h' t tk hk) z2
        | tuple k1 k2 k3 k4 => exact repr_of_reads' (.tuple k1 k2 k3 k4) z1 (PyData.noDict_hsm nd) hg (by omega) (fun _ _ z => z) (fun h' t tk hk => fin h' t tk hk) z2
        | dict k1 k2 k3 k4 k5 => unfold PyData.hasDict at nd; cases nd
      · rw [if_neg hz] at e; cases e
    · cases e
  · cases e

/-! ### built-ins of a sequence -/
/-- a sequence as it lies: a list (a place of the store, or a new one), a tuple -/
def SqR (K : PySem.W.Frag) (scr : List Int) (L : List Addr) (H : Hp) (k : Bool) (xs : List Val) (v : V) : Prop :=
  (k = true ∧ ∃ p ws, v = .ref p ∧ H p = some (.lst ws) ∧ RepL K scr L H xs ws) ∨ (k = false ∧ Rep K scr L H (.tup xs) v)
def rSq (K : PySem.W.Frag) (scr : List Int) (f : Bool → List Val → M Val) : List V → Hp → VK → Prop := fun vs H Q => ∃ L S k xs d S' v, Sim K scr L S H ∧ vs = [v] ∧ SqR K scr L H k xs v ∧ f k xs S = .ok d S' ∧ Post K scr L H d S' Q
theorem tuple_ok : CallR X (.type "tuple") (rSq X.K scr (sqV "tuple")) := by
  intro pins s σ H vs us Q I r h
  obtain ⟨L, S, k, xs, d, S', v, sm, rfl, rq, e, q⟩ := h
  have e : (pure (.tup xs) : M Val) S = .ok d S' := e
  obtain ⟨e1, e2⟩ := ok_pure e
  subst e1 e2
  rcases rq with ⟨rfl, p, ws, rfl, g1, rl⟩ | ⟨rfl, rt⟩
  · exact call_tupleF pins s σ H _ us Q I r ⟨p, ws, rfl, .inl ⟨SqL.of g1, q.tup sm rl⟩⟩
  · obtain ⟨p, ws, rfl, ta, rl⟩ := rt.tup
    exact call_tupleF pins s σ H _ us Q I r ⟨p, ws, rfl, .inr ⟨ta.sq, q.here sm rt⟩⟩
theorem list_ok : CallR X (.type "list") (rSq X.K scr (sqV "list")) := by
  intro pins s σ H vs us Q I r h
  obtain ⟨L, S, k, xs, d, S', v, sm, rfl, rq, e, q⟩ := h
  have e : Out.ok (Val.loc S.length) (S ++ [.lst xs]) = .ok d S' := e
  cases e
  rcases rq with ⟨rfl, p, ws, rfl, g1, rl⟩ | ⟨rfl, rt⟩
  · exact call_list_of pins s σ H _ us Q I r ⟨p, ws, rfl, .inl (SqL.of g1), fun l hl => q.lst sm hl rl⟩
  · obtain ⟨p, ws, rfl, ta, rl⟩ := rt.tup
    exact call_list_of pins s σ H _ us Q I r ⟨p, ws, rfl, .inr ta.sq, fun l hl => q.lst sm hl rl⟩
theorem pairs_rep {K : PySem.W.Frag} {L : List Addr} {H : Hp} : ∀ {xs : List Val} {ws : List V} {ps : List (Key × Val)}, RepL K scr L H xs ws → pairsOf xs = some ps →
    ∃ (as : List Addr) (kvs : List (Key × V)), ws = as.map V.ref ∧ Paired (fun p kv => SqT K H p [kV kv.1, kv.2]) as kvs ∧ ps.map (·.1) = kvs.map (·.1) ∧ RepL K scr L H (ps.map (·.2)) (kvs.map (·.2))
  | [], ws, ps, r, e => by
    unfold RepL at r
    unfold pairsOf at e
    cases e
    subst r
    exact ⟨[], [], rfl, .nil, rfl, RepL.nil⟩
  | x :: xs, ws, ps, r, e => by
    unfold RepL at r
    obtain ⟨v, r', rfl, r1, r2⟩ := r
    unfold pairsOf at e
    split at e
    · rename_i h; cases h
    · rename_i k y rest h
      cases h
      split at e
      · rename_i kk hk
        cases e2 : pairsOf xs with
        | none => rw [e2] at e; cases e
        | some qs =>
          rw [e2] at e
          cases e
          obtain ⟨as, kvs, e3, p3, e4, r4⟩ := pairs_rep r2 e2
          obtain ⟨a, vs, rfl, ta, rl⟩ := r1.tup
          obtain ⟨v1, v2, rfl, q1, q2⟩ := rl.two
          have ek := keyOf_kV hk q1
          subst ek
          exact ⟨a :: as, (kk, v2) :: kvs, by rw [e3]; rfl, .cons ta.sq p3, by simp [e4], RepL.cons q2 r4⟩
      · cases e
    · cases e
theorem dicOf_rep {K : PySem.W.Frag} {L : List Addr} {H : Hp} : ∀ {ps : List (Key × Val)} {kvs : List (Key × V)} {d : List (Key × Val)} {w : List (Key × V)}, ps.map (·.1) = kvs.map (·.1) → RepL K scr L H (ps.map (·.2)) (kvs.map (·.2)) → d.map (·.1) = w.map (·.1) → RepL K scr L H (d.map (·.2)) (w.map (·.2)) →
    (ps.foldl (fun d p => dicPut d p.1 p.2) d).map (·.1) = (mergeK w kvs).map (·.1) ∧ RepL K scr L H ((ps.foldl (fun d p => dicPut d p.1 p.2) d).map (·.2)) ((mergeK w kvs).map (·.2))
  | [], kvs, d, w, h1, r1, h2, r2 => by
    cases kvs with
    | nil => exact ⟨h2, r2⟩
    | cons _ _ => cases h1
  | p :: ps, kvs, d, w, h1, r1, h2, r2 => by
    cases kvs with
    | nil => cases h1
    | cons kv kvs =>
      rw [List.map_cons, List.map_cons] at h1 r1
      have h1 := List.cons.inj h1
      unfold RepL at r1
      obtain ⟨v, r, er, ra, rb⟩ := r1
      have er := List.cons.inj er
      rw [← er.1] at ra
      rw [← er.2] at rb
      obtain ⟨z1, z2⟩ := dicPut_rep (k := p.1) h2 r2 ra
      rw [List.foldl_cons]
      have := dicOf_rep (d := dicPut d p.1 p.2) (w := putK w p.1 kv.2) h1.2 rb z1 z2
      rw [h1.1] at this
      rw [h1.1]
      exact this
theorem dict_ok (hc : X.calm = true) : CallR X (.type "dict") (rSq X.K scr (sqV "dict")) := by
  intro pins s σ H vs us Q I r h
  obtain ⟨L, S, k, xs, d, S', v, sm, rfl, rq, e, q⟩ := h
  have e : (match pairsOf xs with | some ps => alloc (.dic (dicOf ps)) | none => (bad : M Val)) S = .ok d S' := e
  cases h1 : pairsOf xs with
  | none => rw [h1] at e; exact (ok_bad e).elim
  | some ps =>
    rw [h1] at e
    have e : Out.ok (Val.loc S.length) (S ++ [.dic (dicOf ps)]) = .ok d S' := e
    cases e
    have fin : ∀ kvs : List (Key × V), ps.map (·.1) = kvs.map (·.1) → RepL X.K scr L H (ps.map (·.2)) (kvs.map (·.2)) → ∀ p, H p = none → Q (.ref p) (upd H p (.dK (mergeK [] kvs))) := by
      intro kvs e1 r1 p hp
      obtain ⟨z1, z2⟩ := dicOf_rep (d := []) (w := []) e1 r1 rfl RepL.nil
      obtain ⟨e', s'⟩ := sm.alloc (o := .dK (mergeK [] kvs)) (ob := .dic (dicOf ps)) hp fun L' H' x h => ⟨_, h, z1, z2.mono x⟩
      exact q _ _ _ s' e' (rep_loc (by rw [← sm.len]; simp))
    rcases rq with ⟨rfl, p, ws, rfl, g1, rl⟩ | ⟨rfl, rt⟩
    · obtain ⟨as, kvs, rfl, p3, e4, r4⟩ := pairs_rep rl h1
      exact call_dictP hc pins s σ H _ us Q I r ⟨p, as, kvs, rfl, SqL.of g1, p3, fin kvs e4 r4⟩
    · obtain ⟨p, ws, rfl, ⟨o, g, _, po⟩, rl⟩ := rt.tup
      obtain ⟨as, kvs, rfl, p3, e4, r4⟩ := pairs_rep rl h1
      exact call_dictF hc pins s σ H _ us Q I r ⟨p, o, as, kvs, rfl, g, po, p3, fin kvs e4 r4⟩
theorem all_ok (hc : X.calm = true) : CallR X (.builtin "all") (rSq X.K scr (sqV "all")) := by
  intro pins s σ H vs us Q I r h
  obtain ⟨L, S, k, xs, d, S', v, sm, rfl, rq, e, q⟩ := h
  have e : (if k = true then (match bolsOf xs with | some bs => (pure (.bl (bs.all id)) : M Val) | none => bad) else bad) S = .ok d S' := e
  rcases rq with ⟨rfl, p, ws, rfl, g1, rl⟩ | ⟨rfl, rt⟩
  · rw [if_pos rfl] at e
    cases h1 : bolsOf xs with
    | some bs =>
      rw [h1] at e
      obtain ⟨e1, e2⟩ := ok_pure e
      subst e1 e2
      have e3 := rl.to_bols h1
      subst e3
      exact cr_all hc pins s σ H _ us Q I r ⟨p, bs, rfl, SqL.of g1, q.here sm rep_bl⟩
    | none => rw [h1] at e; exact (ok_bad e).elim
  · rw [if_neg (by decide)] at e; exact (ok_bad e).elim
theorem any_ok (hc : X.calm = true) : CallR X (.builtin "any") (rSq X.K scr (sqV "any")) := by
  intro pins s σ H vs us Q I r h
  obtain ⟨L, S, k, xs, d, S', v, sm, rfl, rq, e, q⟩ := h
  have e : (if k = true then (match bolsOf xs with | some bs => (pure (.bl (bs.any id)) : M Val) | none => bad) else bad) S = .ok d S' := e
  rcases rq with ⟨rfl, p, ws, rfl, g1, rl⟩ | ⟨rfl, rt⟩
  · rw [if_pos rfl] at e
    cases h1 : bolsOf xs with
    | some bs =>
      rw [h1] at e
      obtain ⟨e1, e2⟩ := ok_pure e
      subst e1 e2
      have e3 := rl.to_bols h1
      subst e3
      exact cr_any hc pins s σ H _ us Q I r ⟨p, bs, rfl, SqL.of g1, q.here sm rep_bl⟩
    | none => rw [h1] at e; exact (ok_bad e).elim
  · rw [if_neg (by decide)] at e; exact (ok_bad e).elim
theorem sum_ok (hc : X.calm = true) : CallR X (.builtin "sum") (rSq X.K scr (sqV "sum")) := by
  intro pins s σ H vs us Q I r h
  obtain ⟨L, S, k, xs, d, S', v, sm, rfl, rq, e, q⟩ := h
  have e : (if k = true then (match intsOf xs with | some bs => (pure (.int bs.sum) : M Val) | none => bad) else bad) S = .ok d S' := e
  rcases rq with ⟨rfl, p, ws, rfl, g1, rl⟩ | ⟨rfl, rt⟩
  · rw [if_pos rfl] at e
    cases h1 : intsOf xs with
    | some bs =>
      rw [h1] at e
      obtain ⟨e1, e2⟩ := ok_pure e
      subst e1 e2
      have e3 := rl.to_ints h1
      subst e3
      exact cr_sum hc pins s σ H _ us Q I r ⟨p, bs, rfl, SqL.of g1, q.here sm rep_int⟩
    | none => rw [h1] at e; exact (ok_bad e).elim
  · rw [if_neg (by decide)] at e; exact (ok_bad e).elim

/-! ### methods -/
def rMt (K : PySem.W.Frag) (scr : List Int) (f : Val → List Val → M Val) : V → List V → Hp → VK → Prop := fun x vs H Q => ∃ L S a ds d S', Sim K scr L S H ∧ Rep K scr L H a x ∧ RepL K scr L H ds vs ∧ f a ds S = .ok d S' ∧ Post K scr L H d S' Q
theorem Post.putL {K : PySem.W.Frag} {L : List Addr} {H : Hp} {S : Sto} {Q : VK} {n : Nat} {p : Addr} {xs : List Val} {vs : List V} {d : Val} {v : V} (q : Post K scr L H d (S.set n (.lst xs)) Q) (sm : Sim K scr L S H) (hp : L[n]? = some p) (rl : RepL K scr L H xs vs)
    (rd : Rep K scr L H d v) : Q v (upd H p (.lst vs)) := by
  obtain ⟨e', s'⟩ := sm.put (o := .lst vs) (ob := .lst xs) hp (ObR.of_lst rl)
  exact q _ _ _ s' e' (rd.mono e')
theorem app_okV : MtR X "list.append" (rMt X.K scr appV) := by
  intro pins s σ H x vs v us Q I rx rs h
  obtain ⟨L, S, a, ds, d, S', sm, ra, rd, e, q⟩ := h
  unfold appV at e
  split at e
  · rename_i n y
    split at e
    · rename_i xs h1
      by_cases hz : xs.length < sizeLine
      · rw [if_pos hz] at e
        cases e
        obtain ⟨p, hx, hp⟩ := ra.loc
        obtain ⟨ws, g1, rl⟩ := sm.lst_at h1 hp
        obtain ⟨w', rfl, rw'⟩ := rd.one
        exact mt_append pins s σ H x _ v us Q I rx rs ⟨p, ws, w', hx, rfl, g1, by rw [rl.length]; exact hz, q.putL sm hp (rl.append (RepL.cons rw' RepL.nil)) rep_non⟩
      · rw [if_neg hz] at e; cases e
    · cases e
  · cases e
theorem RepL.dropLast {K : PySem.W.Frag} {L : List Addr} {H : Hp} {xs : List Val} {vs : List V} (r : RepL K scr L H xs vs) : RepL K scr L H xs.dropLast vs.dropLast := by
  rw [List.dropLast_eq_take, List.dropLast_eq_take, r.length]
  exact r.take _
theorem pop_okV : MtR X "list.pop" (rMt X.K scr popV) := by
  intro pins s σ H x vs v us Q I rx rs h
  obtain ⟨L, S, a, ds, d, S', sm, ra, rd, e, q⟩ := h
  unfold popV at e
  split at e
  · rename_i n
    split at e
    · rename_i xs h1
      split at e
      · rename_i y h2
        cases e
        obtain ⟨p, hx, hp⟩ := ra.loc
        obtain ⟨ws, g1, rl⟩ := sm.lst_at h1 hp
        unfold RepL at rd
        subst rd
        obtain ⟨w', h3, h4⟩ := rl.get h2
        exact mt_pop pins s σ H x _ v us Q I rx rs ⟨p, ws, w', hx, rfl, g1, by rw [rl.length]; exact h3, q.putL sm hp rl.dropLast h4⟩
      · cases e
    · cases e
  · cases e
theorem index_okV : MtR X "str.index" (rMt X.K scr indexV) := by
  intro pins s σ H x vs v us Q I rx rs h
  obtain ⟨L, S, a, ds, d, S', sm, ra, rd, e, q⟩ := h
  unfold indexV at e
  split at e
  · rename_i z y
    cases h1 : Builtin.Str.occurrences z y 0 z.length 1 with
    | cons i rest =>
      rw [h1] at e
      obtain ⟨e1, e2⟩ := ok_pure e
      subst e1 e2
      obtain ⟨w', rfl, rw'⟩ := rd.one
      rw [rw'.str] at rs
      exact mt_sindex pins s σ H x _ v us Q I rx rs ⟨z, y, i, rest, ra.str, rfl, h1, q.here sm rep_int⟩
    | nil => rw [h1] at e; exact (ok_bad e).elim
  · exact (ok_bad e).elim
theorem get_okV (hu : X.A.units + 66 < cLine) : MtR X "dict.get" (rMt X.K scr getV) := by
  intro pins s σ H x vs v us Q I rx rs h
  obtain ⟨L, S, a, ds, d, S', sm, ra, rd, e, q⟩ := h
  unfold getV at e
  split at e
  · rename_i n k dv
    split at e
    · rename_i kvs kk h1 h2
      cases e
      obtain ⟨p, rfl, hp⟩ := ra.loc
      obtain ⟨ws, g1, g2, g3⟩ := sm.dic_at h1 hp
      obtain ⟨w1, w2, rfl, r1, r2⟩ := rd.two
      obtain ⟨u1, u2, rfl, t1, t2⟩ := vals2 rs
      obtain rfl : v = .ref p := rx
      have ey := keyOf_kV h2 r1
      subst ey
      refine d_get2 (by omega) I (DGet.k g1) t1 t2 fun w' s' I' rw' => ⟨_, H, I', rw', ?_⟩
      rcases dicGet_rep kk g2 g3 with ⟨z1, z2⟩ | ⟨d', w'', z1, z2, z3⟩
      · rw [z1] at q; rw [z2]; exact q.here sm r2
      · rw [z1] at q; rw [z2]; exact q.here sm z3
    · cases e
  · cases e
theorem plainAll_of {zs : List PyData} (h : PyData.canLayAll0 zs = true) : PyData.plainAll zs = true := by
  have := PyData.plain_of_canLay0 (.tuple zs) (by simpa [PyData.canLay0] using h)
  simpa [PyData.plain] using this
theorem cntL_okV (hu : X.A.units + 66 < cLine) : MtR X "list.count" (rMt X.K scr cntL) := by
  intro pins s σ H x vs v us Q I rx rs h
  obtain ⟨L, S, a, ds, d, S', sm, ra, rd, e, q⟩ := h
  unfold cntL at e
  split at e
  · rename_i y
    split at e
    · rename_i d zs h1 h2
      by_cases hz : (SeqAt.shaped d && SeqAt.shaped (.list zs)) = true
      · rw [if_pos hz] at e
        cases e
        rw [Bool.and_eq_true] at hz
        obtain ⟨w, rfl, rw'⟩ := rd.one
        obtain ⟨u, rfl, ru⟩ := vals1 rs
        obtain ⟨as, ry⟩ := Dp.reads I d w u (dat_dp sm rw' h1) ru
        obtain ⟨bs, rz⟩ := Dp.reads I (.list zs) x v (dat_dp sm ra h2) rx
        cases rz with
        | list k1 k2 k3 k4 =>
          exact SeqAt.count_list_data ⟨_, k1, k2, _, k3⟩ k4 ry (plainAll_of (by have := SeqAt.canLay_of_shaped hz.2; simpa [PyData.canLay0] using this)) (PyData.plain_of_canLay0 d (SeqAt.canLay_of_shaped hz.1)) (room_in hz.1 hu)
            ⟨.int _, H, I.tok _, ⟨_, rfl⟩, q.here sm rep_int⟩
      · rw [if_neg hz] at e; cases e
    · cases e
  · cases e
theorem cntT_okV (hu : X.A.units + 66 < cLine) : MtR X "tuple.count" (rMt X.K scr cntT) := by
  intro pins s σ H x vs v us Q I rx rs h
  obtain ⟨L, S, a, ds, d, S', sm, ra, rd, e, q⟩ := h
  unfold cntT at e
  split at e
  · rename_i y
    split at e
    · rename_i d zs h1 h2
      by_cases hz : (SeqAt.shaped d && SeqAt.shaped (.tuple zs)) = true
      · rw [if_pos hz] at e
        cases e
        rw [Bool.and_eq_true] at hz
        obtain ⟨w, rfl, rw'⟩ := rd.one
        obtain ⟨u, rfl, ru⟩ := vals1 rs
        obtain ⟨as, ry⟩ := Dp.reads I d w u (dat_dp sm rw' h1) ru
        obtain ⟨bs, rz⟩ := Dp.reads I (.tuple zs) x v (dat_dp sm ra h2) rx
        cases rz with
        | tuple k1 k2 k3 k4 =>
          exact SeqAt.count_tuple_data ⟨_, k1, k2, _, k3⟩ k4 ry (plainAll_of (by have := SeqAt.canLay_of_shaped hz.2; simpa [PyData.canLay0] using this)) (PyData.plain_of_canLay0 d (SeqAt.canLay_of_shaped hz.1)) (room_in hz.1 hu)
            ⟨.int _, H, I.tok _, ⟨_, rfl⟩, q.here sm rep_int⟩
      · rw [if_neg hz] at e; cases e
    · cases e
  · cases e
theorem ins_okV : MtR X "list.insert" (rMt X.K scr insV) := by
  intro pins s σ H x vs v us Q I rx rs h
  obtain ⟨L, S, a, ds, d, S', sm, ra, rd, e, q⟩ := h
  unfold insV at e
  split at e
  · rename_i n i y
    split at e
    · rename_i xs h1
      by_cases hz : xs.length < sizeLine ∧ 0 ≤ i ∧ i < 2 ^ 63
      · rw [if_pos hz] at e
        cases e
        obtain ⟨p, hx, hp⟩ := ra.loc
        obtain ⟨ws, g1, rl⟩ := sm.lst_at h1 hp
        obtain ⟨w1, w2, rfl, q1, q2⟩ := rd.two
        exact mt_insert pins s σ H x _ v us Q I rx rs ⟨p, ws, i, w2, hx, by rw [q1.int], g1, by rw [rl.length]; exact hz.1, hz.2.1, hz.2.2, q.putL sm hp (((rl.take _).append (RepL.cons q2 RepL.nil)).append (rl.drop _)) rep_non⟩
      · rw [if_neg hz] at e; cases e
    · cases e
  · cases e
/-- xs.extend(ys), ys let go behind it -/
theorem ext_okV : MtR X "list.extend" (fun x vs H Q => ∃ L S a ys d S' v, Sim X.K scr L S H ∧ Rep X.K scr L H a x ∧ vs = [v] ∧ SqR X.K scr L H true ys v ∧ extV a ys S = .ok d S' ∧ Post X.K scr L H d S' Q) := by
  intro pins s σ H x vs v us Q I rx rs h
  obtain ⟨L, S, a, ys, d, S', w, sm, ra, rfl, rq, e, q⟩ := h
  unfold extV at e
  split at e
  · rename_i n
    split at e
    · rename_i xs h1
      by_cases hz : xs.length + ys.length ≤ sizeLine
      · rw [if_pos hz] at e
        cases e
        obtain ⟨p, hx, hp⟩ := ra.loc
        obtain ⟨ws, g1, rl⟩ := sm.lst_at h1 hp
        rcases rq with ⟨_, b, zs, rfl, g2, r2⟩ | ⟨z, _⟩
        · exact mt_extend pins s σ H x _ v us Q I rx rs ⟨p, b, ws, zs, hx, rfl, g1, g2, by rw [rl.length, r2.length]; exact hz, q.putL sm hp (rl.append r2) rep_non⟩
        · cases z
      · rw [if_neg hz] at e; cases e
    · cases e
  · cases e
end
end Ev

end

section
set_option maxHeartbeats 1000000
/-! Ev6: expressions, construct by construct. -/
namespace Ev
open PySem L2 PyProof.Rows

section
variable (K : PySem.W.Frag) (C : Ev.Ctx)
def tE (x : Ex) : TE := fun σ H Q => ∃ L S ρ d S', Sim K C.scr L S H ∧ EnvR K C.scr L H ρ σ ∧ evE C x ρ S = .ok d S' ∧ Post K C.scr L H d S' Q
def tT (x : Ex) : TT := fun σ H Q => ∃ L S ρ b S', Sim K C.scr L S H ∧ EnvR K C.scr L H ρ σ ∧ evT C x ρ S = .ok b S' ∧ ∀ L' H', Sim K C.scr L' S' H' → Ext L H L' H' → Q b H'
def tQ (x : Ex) : TE := fun σ H Q => ∃ L S ρ k xs S', Sim K C.scr L S H ∧ EnvR K C.scr L H ρ σ ∧ evQ C x ρ S = .ok (k, xs) S' ∧ ∀ v L' H', Sim K C.scr L' S' H' → Ext L H L' H' → SqR K C.scr L' H' k xs v → Q v H'
def tEs (xs : Exs) : TA := fun σ H Q => ∃ L S ρ ds S', Sim K C.scr L S H ∧ EnvR K C.scr L H ρ σ ∧ evEs C xs ρ S = .ok ds S' ∧ ∀ vs L' H', Sim K C.scr L' S' H' → Ext L H L' H' → RepL K C.scr L' H' ds vs → Q vs H'
end

theorem PE.imp {X : Cx} {e : Expr} {t t' : TE} (h : PE X e t) (f : ∀ σ H Q, t' σ H Q → t σ H Q) : PE X e t' := ⟨fun pins s σ H Q I q => h.run pins s σ H Q I (f σ H Q q)⟩
theorem PT.imp {X : Cx} {e : Expr} {t t' : TT} (h : PT X e t) (f : ∀ σ H Q, t' σ H Q → t σ H Q) : PT X e t' := ⟨fun pins s σ H Q I q => h.run pins s σ H Q I (f σ H Q q)⟩
theorem PW.imp {X : Cx} {e : Expr} {t t' : TT} (h : PW X e t) (f : ∀ σ H Q, t' σ H Q → t σ H Q) : PW X e t' := ⟨fun w pins s σ H Q I q => h.run w pins s σ H Q I (f σ H Q q)⟩
theorem PA.imp {X : Cx} {e : List Expr} {t t' : TA} (h : PA X e t) (f : ∀ σ H Q, t' σ H Q → t σ H Q) : PA X e t' := ⟨fun pos pins s σ H Q I q => h.run pos pins s σ H Q I (f σ H Q q)⟩

theorem Post.mono {K : PySem.W.Frag} {scr : List Int} {L L' : List Addr} {H H' : Hp} {d : Val} {S : Sto} {Q : VK} (q : Post K scr L H d S Q) (e : Ext L H L' H') : Post K scr L' H' d S Q :=
  fun v L2 H2 s e2 r => q v L2 H2 s (e.trans e2) r

section
variable {X : Cx} {C : Ev.Ctx} {a b c e : Expr} {xa xb xc x : Ex} {pos : Pos}

/-! ### names, constants -/
theorem s_var {i : Nat} {y : Str} (hN : X.N[i]? = some y) (hv : Vis X.env.scope y) (hd : (y == ("__debug__" : Str)) = false) (hcd : (y == ("__classdict__" : Str)) = false) : PE X (.Name y pos) (tE X.K C (.var i)) :=
  PE.imp (pe_var hN hv hd hcd) fun σ H Q ⟨L, S, ρ, d, S', sm, er, e, q⟩ => by
    have e : (match ρ[i]? with | some (some v) => (pure v : M Val) | _ => bad) S = .ok d S' := e
    cases h : ρ[i]? with
    | none => rw [h] at e; exact (ok_bad e).elim
    | some o =>
      cases o with
      | none => rw [h] at e; exact (ok_bad e).elim
      | some v =>
        rw [h] at e
        obtain ⟨e1, e2⟩ := ok_pure e
        subst e1 e2
        obtain ⟨w, h1, h2⟩ := er.val i v h
        exact ⟨w, h1, q.here sm h2⟩
theorem s_lit {t : TE} {v : V} {d0 : Val} (h : PE X e (tC v)) (hx : ∀ ρ S, evE C x ρ S = .ok d0 S) (hr : ∀ L H, Rep X.K C.scr L H d0 v) : PE X e (tE X.K C x) :=
  PE.imp h fun σ H Q ⟨L, S, ρ, d, S', sm, er, e, q⟩ => by
    rw [hx] at e
    cases e
    exact q.here sm (hr L H)
theorem s_int {i : Int} {j : Nat} : PE X (.Constant (.int i) j pos) (tE X.K C (.int i)) := s_lit (t := tC (.int i)) pe_int (fun _ _ => rfl) fun _ _ => rep_int
theorem s_bl {i : Bool} {j : Nat} : PE X (.Constant (.bool i) j pos) (tE X.K C (.bl i)) := s_lit (t := tC (.bl i)) pe_bl (fun _ _ => rfl) fun _ _ => rep_bl
theorem s_str {i : Str} {j : Nat} : PE X (.Constant (.str i) j pos) (tE X.K C (.str i)) := s_lit (t := tC (.str i)) pe_str (fun _ _ => rfl) fun _ _ => rep_str
theorem s_non {j : Nat} : PE X (.Constant .none j pos) (tE X.K C .non) := s_lit (t := tC .non) pe_non (fun _ _ => rfl) fun _ _ => rep_non
theorem s_ty {n : String} {y : Str} (hg : Gl X y) (hm : X.mg y = none) (hv : bootBuiltins y = some (.type n)) (hn : y ≠ "__name__") (hd : (y == ("__debug__" : Str)) = false) : PE X (.Name y pos) (tE X.K C (.ty n)) :=
  s_lit (t := tC (.ty n)) (pe_bltn (v := .ty n) hg hm hv rfl hn hd) (fun _ _ => rfl) fun _ _ => rep_ty
theorem s_glo {y : Str} {d0 : Val} {v : V} {u : Value} (hg : Gl X y) (hm : X.mg y = some u) (r : RelV v u) (hd : (y == ("__debug__" : Str)) = false) (hx : C.glo y = some d0) (hr : ∀ L H, Rep X.K C.scr L H d0 v) : PE X (.Name y pos) (tE X.K C (.glo y)) :=
  s_lit (t := tC v) (pe_glob hg hm r hd) (fun ρ S => by show opt (C.glo y) S = _; rw [hx]; rfl) hr

/-! ### two and three parts -/
theorem comp1 {K : PySem.W.Frag} {f : Val → M Val} {σ : L2.St} {H : Hp} {Q : VK} {R : V → Hp → Prop}
    (h : ∃ L S ρ d S', Sim K C.scr L S H ∧ EnvR K C.scr L H ρ σ ∧ (evE C xa ρ >>= f) S = .ok d S' ∧ Post K C.scr L H d S' Q)
    (k : ∀ L S x v H1 d S', Sim K C.scr L S H1 → Rep K C.scr L H1 x v → f x S = .ok d S' → Post K C.scr L H1 d S' Q → R v H1) : tE K C xa σ H R := by
  obtain ⟨L, S, ρ, d, S', sm, er, e, q⟩ := h
  obtain ⟨x, S1, e1, e2⟩ := ok_bind e
  exact ⟨L, S, ρ, x, S1, sm, er, e1, fun v L1 H1 s1 x1 r1 => k L1 S1 x v H1 d S' s1 r1 e2 (q.mono x1)⟩
theorem comp2 {K : PySem.W.Frag} {f : Val → Val → M Val} {σ : L2.St} {H : Hp} {Q : VK} {R : V → V → Hp → Prop}
    (h : ∃ L S ρ d S', Sim K C.scr L S H ∧ EnvR K C.scr L H ρ σ ∧ (evE C xa ρ >>= fun x => evE C xb ρ >>= fun y => f x y) S = .ok d S' ∧ Post K C.scr L H d S' Q)
    (k : ∀ v w H2, r2M K C.scr f v w H2 Q → R v w H2) : tE K C xa σ H fun v H1 => tE K C xb σ H1 fun w H2 => R v w H2 := by
  obtain ⟨L, S, ρ, d, S', sm, er, e, q⟩ := h
  obtain ⟨x, S1, e1, e2⟩ := ok_bind e
  refine ⟨L, S, ρ, x, S1, sm, er, e1, fun v L1 H1 s1 x1 r1 => ?_⟩
  obtain ⟨y, S2, e3, e4⟩ := ok_bind e2
  refine ⟨L1, S1, ρ, y, S2, s1, er.mono x1, e3, fun w L2 H2 s2 x2 r2 => k v w H2 ?_⟩
  exact ⟨L2, S2, x, y, d, S', s2, r1.mono x2, r2, e4, q.mono (x1.trans x2)⟩
theorem s_bin {op : Operator} (ha : PE X a (tE X.K C xa)) (hb : PE X b (tE X.K C xb)) : PE X (.BinOp a op b pos) (tE X.K C (.bin op xa xb)) :=
  PE.imp (pe_op (bin_ok (scr := C.scr) op) ha hb) fun σ H Q h => comp2 (f := binV op) h fun _ _ _ z => z
theorem s_neg (ha : PE X a (tE X.K C xa)) : PE X (.UnaryOp .USub a pos) (tE X.K C (.neg xa)) := by
  have ho : UnR X (unaryOp .USub) (fun x H Q => ∃ L S a d S', Sim X.K C.scr L S H ∧ Rep X.K C.scr L H a x ∧ negM a S = .ok d S' ∧ Post X.K C.scr L H d S' Q) := by
    intro pins s σ H x v Q I rx h
    obtain ⟨L, S, a, d, S', sm, ra, e, q⟩ := h
    unfold negM at e
    cases ea : num? a with
    | none => rw [ea] at e; exact (ok_bad e).elim
    | some i =>
      rw [ea] at e
      obtain ⟨e1, e2⟩ := ok_pure e
      subst e1 e2
      rcases num_cases ea ra rx with ⟨t, rfl⟩ | ⟨b, rfl, hi⟩
      · exact neg_int (fin_int I sm q)
      · rw [hi] at q; exact neg_bool (fin_int I sm q)
  refine PE.imp (pe_un ho ha) fun σ H Q h => ?_
  exact comp1 (f := negM) h fun L S x v H1 d S' s1 r1 e1 q1 => ⟨L, S, x, d, S', s1, r1, e1, q1⟩
theorem tru_some {v : Val} {S S' : Sto} {b : Bool} (h : tru v S = .ok b S') : truth S v = some b ∧ S' = S := by
  unfold tru at h
  split at h
  · rename_i c h1; cases h; exact ⟨h1, rfl⟩
  · cases h
theorem s_not (ha : PE X a (tE X.K C xa)) : PE X (.UnaryOp .Not a pos) (tE X.K C (.not xa)) :=
  PE.imp (pe_notT ha) fun σ H Q h => comp1 (f := fun x => tru x >>= fun t => pure (.bl (!t))) h fun L S x v H1 d S' s1 r1 e1 q1 => by
    obtain ⟨t, S2, e2, e3⟩ := ok_bind e1
    obtain ⟨h1, rfl⟩ := tru_some e2
    obtain ⟨e4, e5⟩ := ok_pure e3
    subst e4 e5
    exact ⟨t, tru_val s1 r1 h1, q1.here s1 rep_bl⟩
theorem s_cmp {op : CmpOp} (hu : X.A.units + 66 < cLine) (ha : PE X a (tE X.K C xa)) (hb : PE X b (tE X.K C xb)) (hm : behindInMarks op b = false) : PE X (.Compare a [op] [b] pos) (tE X.K C (.cmp op xa xb)) :=
  PE.imp (pe_cmpR (cmp_ok (scr := C.scr) hu op) ha hb hm) fun σ H Q h => comp2 (f := cmpV op) h fun _ _ _ z => z
theorem cmpV_some {op : CmpOp} {a b d : Val} {S S' : Sto} (h : cmpV op a b S = .ok d S') : ∃ c, d = .bl c ∧ S' = S ∧ cmpVal S op a b = some c := by
  unfold cmpV at h
  split at h
  · rename_i c h1; cases h; exact ⟨c, rfl, rfl, h1⟩
  · cases h
theorem s_cmpT {op : CmpOp} (hu : X.A.units + 66 < cLine) (ha : PE X a (tE X.K C xa)) (hb : PE X b (tE X.K C xb)) (hm : behindInMarks op b = false) : PT X (.Compare a [op] [b] pos) (tT X.K C (.cmp op xa xb)) :=
  PT.imp (pt_cmpR (cmp_ok (scr := C.scr) hu op) ha hb hm) fun σ H Q ⟨L, S, ρ, t, S', sm, er, e, q⟩ => by
    have e : (evE C (.cmp op xa xb) ρ >>= tru) S = .ok t S' := e
    obtain ⟨x, S1, e1, e2⟩ := ok_bind e
    obtain ⟨h1, rfl⟩ := tru_some e2
    refine comp2 (f := cmpV op) (Q := fun z H' => ∃ k, z = .bl k ∧ Q k H') ⟨L, S, ρ, x, _, sm, er, e1, fun v L' H' s' x' r' => ?_⟩ fun _ _ _ z => z
    obtain ⟨y1, T1, g1, g2⟩ := ok_bind (m := evE C xa ρ) (f := fun x => evE C xb ρ >>= fun y => cmpV op x y) e1
    obtain ⟨y2, T2, g3, g4⟩ := ok_bind g2
    obtain ⟨c, rfl, rfl, _⟩ := cmpV_some g4
    cases h1
    exact ⟨t, r'.bl, q L' H' s' x'⟩
/-- the right operand of the first is the left one of the second -/
theorem chn_read {K : PySem.W.Frag} {op op' : CmpOp} (σ : L2.St) (H : Hp) (Q : VK) (h : tE K C (.chn op op' xa xb xc) σ H Q) : tChain (r2M K C.scr (cmpV op)) (r2M K C.scr (cmpV op')) (tE K C xa) (tE K C xb) (tE K C xc) σ H Q := by
    obtain ⟨L, S, ρ, d, S', sm, er, e, q⟩ := h
    have e : (evE C xa ρ >>= fun x => evE C xb ρ >>= fun y => cmpV op x y >>= fun z => tru z >>= fun t => if t then (evE C xc ρ >>= fun w => cmpV op' y w) else pure z) S = .ok d S' := e
    obtain ⟨x, S1, e1, e⟩ := ok_bind e
    refine ⟨L, S, ρ, x, S1, sm, er, e1, fun v L1 H1 s1 x1 r1 => ?_⟩
    obtain ⟨y, S2, e2, e⟩ := ok_bind e
    refine ⟨L1, S1, ρ, y, S2, s1, er.mono x1, e2, fun w L2 H2 s2 x2 r2 => ?_⟩
    obtain ⟨z, S3, e3, ea⟩ := ok_bind e
    obtain ⟨t, S4, e4, eb⟩ := ok_bind ea
    have e := eb
    clear eb ea
    obtain ⟨h4, e44⟩ := tru_some e4
    subst e44
    obtain ⟨k, e33, e34, h3⟩ := cmpV_some e3
    subst e33 e34
    cases h4
    refine ⟨L2, _, x, y, .bl t, _, s2, r1.mono x2, r2, e3, fun zv L3 H3 s3 x3 r3 => ⟨t, r3.bl, ?_⟩⟩
    cases t with
    | true =>
      rw [if_pos rfl]
      rw [if_pos rfl] at e
      obtain ⟨w', S5, e5, e6⟩ := ok_bind e
      refine ⟨L3, _, ρ, w', S5, s3, er.mono (x1.trans (x2.trans x3)), e5, fun u L4 H4 s4 x4 r4 => ?_⟩
      exact ⟨L4, S5, y, w', d, S', s4, r2.mono (x3.trans x4), r4, e6, q.mono (x1.trans (x2.trans (x3.trans x4)))⟩
    | false =>
      rw [if_neg Bool.false_ne_true]
      rw [if_neg Bool.false_ne_true] at e
      obtain ⟨e5, e6⟩ := ok_pure e
      subst e5 e6
      exact q (.bl false) L3 H3 s3 (x1.trans (x2.trans x3)) rep_bl
theorem chn_bl {op op' : CmpOp} {ρ : Ev.Env} {S S' : Sto} {d : Val} (e : evE C (.chn op op' xa xb xc) ρ S = .ok d S') : ∃ b, d = .bl b := by
  have e : (evE C xa ρ >>= fun x => evE C xb ρ >>= fun y => cmpV op x y >>= fun z => tru z >>= fun t => if t then (evE C xc ρ >>= fun w => cmpV op' y w) else pure z) S = .ok d S' := e
  obtain ⟨x, S1, e1, e⟩ := ok_bind e
  obtain ⟨y, S2, e2, e⟩ := ok_bind e
  obtain ⟨z, S3, e3, e⟩ := ok_bind e
  obtain ⟨t, S4, e4, e⟩ := ok_bind e
  cases t with
  | true =>
    rw [if_pos rfl] at e
    obtain ⟨w, S5, e5, e⟩ := ok_bind e
    obtain ⟨c, h, _⟩ := cmpV_some e
    exact ⟨c, h⟩
  | false =>
    rw [if_neg Bool.false_ne_true] at e
    obtain ⟨e5, _⟩ := ok_pure e
    obtain ⟨c, h, _⟩ := cmpV_some e3
    exact ⟨c, e5.symm.trans h⟩
theorem chn_readT {K : PySem.W.Frag} {op op' : CmpOp} (σ : L2.St) (H : Hp) (Q : Bool → Hp → Prop) (h : tT K C (.chn op op' xa xb xc) σ H Q) : tTest (tChain (r2M K C.scr (cmpV op)) (r2M K C.scr (cmpV op')) (tE K C xa) (tE K C xb) (tE K C xc)) σ H Q := by
  obtain ⟨L, S, ρ, t, S', sm, er, e, q⟩ := h
  have e : (evE C (.chn op op' xa xb xc) ρ >>= tru) S = .ok t S' := e
  obtain ⟨x, S1, e1, e2⟩ := ok_bind e
  obtain ⟨h1, z1⟩ := tru_some e2
  obtain ⟨b, rfl⟩ := chn_bl e1
  cases h1
  subst z1
  exact chn_read σ H _ ⟨L, S, ρ, .bl t, _, sm, er, e1, fun v L' H' s' x' r' => ⟨t, r'.bl, q L' H' s' x'⟩⟩
theorem s_ite (hc : PT X c (tT X.K C xc)) (ha : PE X a (tE X.K C xa)) (hb : PE X b (tE X.K C xb)) : PE X (.IfExp c a b pos) (tE X.K C (.ite xc xa xb)) :=
  PE.imp (pe_ifExp hc ha hb) fun σ H Q ⟨L, S, ρ, d, S', sm, er, e, q⟩ => by
    have e : (evT C xc ρ >>= fun t => if t then evE C xa ρ else evE C xb ρ) S = .ok d S' := e
    obtain ⟨t, S1, e1, e2⟩ := ok_bind e
    refine ⟨L, S, ρ, t, S1, sm, er, e1, fun L1 H1 s1 x1 => ?_⟩
    cases t with
    | true =>
      rw [if_pos rfl] at e2
      rw [if_pos rfl]
      exact ⟨L1, S1, ρ, d, S', s1, er.mono x1, e2, q.mono x1⟩
    | false =>
      rw [if_neg Bool.false_ne_true] at e2
      rw [if_neg Bool.false_ne_true]
      exact ⟨L1, S1, ρ, d, S', s1, er.mono x1, e2, q.mono x1⟩
theorem s_iteT (hc : PT X c (tT X.K C xc)) (ha : PT X a (tT X.K C xa)) (hb : PT X b (tT X.K C xb)) : PT X (.IfExp c a b pos) (tT X.K C (.ite xc xa xb)) := by
  refine ⟨fun pins s σ H Q I h => ?_⟩
  obtain ⟨L, S, ρ, d, S', sm, er, e, q⟩ := h
  have e : (evT C xc ρ >>= fun t => if t then evT C xa ρ else evT C xb ρ) S = .ok d S' := e
  obtain ⟨t, S1, e1, e2⟩ := ok_bind e
  refine isTrue_IfExp (thn (hc.run pins s σ H (fun t' H1 => t' = t ∧ ∃ L1, Sim X.K C.scr L1 S1 H1 ∧ Ext L H L1 H1) I ⟨L, S, ρ, t, S1, sm, er, e1, fun L1 H1 s1 x1 => ⟨rfl, L1, s1, x1⟩⟩) fun t' s1 ⟨H1, I1, e3, L1, s1', x1⟩ => ?_)
  subst e3
  cases t' with
  | true =>
    rw [if_pos rfl] at e2
    exact ha.run pins s1 σ H1 Q I1 ⟨L1, S1, ρ, d, S', s1', er.mono x1, e2, fun L2 H2 s2 x2 => q L2 H2 s2 (x1.trans x2)⟩
  | false =>
    rw [if_neg Bool.false_ne_true] at e2
    exact hb.run pins s1 σ H1 Q I1 ⟨L1, S1, ρ, d, S', s1', er.mono x1, e2, fun L2 H2 s2 x2 => q L2 H2 s2 (x1.trans x2)⟩

/-! ### and, or -/
theorem s_and {rest : List Expr} (ha : PE X a (tE X.K C xa)) (hb : PE X (.BoolOp .And (b :: rest) pos) (tE X.K C xb)) : PE X (.BoolOp .And (a :: b :: rest) pos) (tE X.K C (.and xa xb)) :=
  PE.imp (pe_andT ha hb) fun σ H Q ⟨L, S, ρ, d, S', sm, er, e, q⟩ => by
    have e : (evE C xa ρ >>= fun x => tru x >>= fun t => if t then evE C xb ρ else pure x) S = .ok d S' := e
    obtain ⟨x, S1, e1, e⟩ := ok_bind e
    refine ⟨L, S, ρ, x, S1, sm, er, e1, fun v L1 H1 s1 x1 r1 => ?_⟩
    obtain ⟨t, S2, e2, e⟩ := ok_bind e
    obtain ⟨h2, rfl⟩ := tru_some e2
    refine ⟨t, tru_val s1 r1 h2, ?_⟩
    cases t with
    | true =>
      rw [if_pos rfl] at e
      rw [if_pos rfl]
      exact ⟨L1, _, ρ, d, S', s1, er.mono x1, e, q.mono x1⟩
    | false =>
      rw [if_neg Bool.false_ne_true] at e
      rw [if_neg Bool.false_ne_true]
      obtain ⟨e3, e4⟩ := ok_pure e
      subst e3 e4
      exact q v L1 H1 s1 x1 r1
theorem s_or {rest : List Expr} (ha : PE X a (tE X.K C xa)) (hb : PE X (.BoolOp .Or (b :: rest) pos) (tE X.K C xb)) : PE X (.BoolOp .Or (a :: b :: rest) pos) (tE X.K C (.or xa xb)) :=
  PE.imp (pe_orT ha hb) fun σ H Q ⟨L, S, ρ, d, S', sm, er, e, q⟩ => by
    have e : (evE C xa ρ >>= fun x => tru x >>= fun t => if t then pure x else evE C xb ρ) S = .ok d S' := e
    obtain ⟨x, S1, e1, e⟩ := ok_bind e
    refine ⟨L, S, ρ, x, S1, sm, er, e1, fun v L1 H1 s1 x1 r1 => ?_⟩
    obtain ⟨t, S2, e2, e⟩ := ok_bind e
    obtain ⟨h2, rfl⟩ := tru_some e2
    refine ⟨t, tru_val s1 r1 h2, ?_⟩
    cases t with
    | false =>
      rw [if_neg Bool.false_ne_true] at e
      rw [if_neg Bool.false_ne_true]
      exact ⟨L1, _, ρ, d, S', s1, er.mono x1, e, q.mono x1⟩
    | true =>
      rw [if_pos rfl] at e
      rw [if_pos rfl]
      obtain ⟨e3, e4⟩ := ok_pure e
      subst e3 e4
      exact q v L1 H1 s1 x1 r1
theorem s_andT {rest : List Expr} (ha : PT X a (tT X.K C xa)) (hb : PW X (.BoolOp .And (b :: rest) pos) (tT X.K C xb)) : PW X (.BoolOp .And (a :: b :: rest) pos) (tT X.K C (.and xa xb)) :=
  PW.imp (pw_and ha hb) fun σ H Q ⟨L, S, ρ, d, S', sm, er, e, q⟩ => by
    have e : (evT C xa ρ >>= fun t => if t then evT C xb ρ else pure false) S = .ok d S' := e
    obtain ⟨t, S1, e1, e⟩ := ok_bind e
    refine ⟨L, S, ρ, t, S1, sm, er, e1, fun L1 H1 s1 x1 => ?_⟩
    cases t with
    | true =>
      rw [if_pos rfl] at e
      rw [if_pos rfl]
      exact ⟨L1, S1, ρ, d, S', s1, er.mono x1, e, fun L2 H2 s2 x2 => q L2 H2 s2 (x1.trans x2)⟩
    | false =>
      rw [if_neg Bool.false_ne_true] at e
      rw [if_neg Bool.false_ne_true]
      obtain ⟨e3, e4⟩ := ok_pure e
      subst e3 e4
      exact q L1 H1 s1 x1
theorem s_orT {rest : List Expr} (ha : PT X a (tT X.K C xa)) (hb : PW X (.BoolOp .Or (b :: rest) pos) (tT X.K C xb)) : PW X (.BoolOp .Or (a :: b :: rest) pos) (tT X.K C (.or xa xb)) :=
  PW.imp (pw_or ha hb) fun σ H Q ⟨L, S, ρ, d, S', sm, er, e, q⟩ => by
    have e : (evT C xa ρ >>= fun t => if t then pure true else evT C xb ρ) S = .ok d S' := e
    obtain ⟨t, S1, e1, e⟩ := ok_bind e
    refine ⟨L, S, ρ, t, S1, sm, er, e1, fun L1 H1 s1 x1 => ?_⟩
    cases t with
    | false =>
      rw [if_neg Bool.false_ne_true] at e
      rw [if_neg Bool.false_ne_true]
      exact ⟨L1, S1, ρ, d, S', s1, er.mono x1, e, fun L2 H2 s2 x2 => q L2 H2 s2 (x1.trans x2)⟩
    | true =>
      rw [if_pos rfl] at e
      rw [if_pos rfl]
      obtain ⟨e3, e4⟩ := ok_pure e
      subst e3 e4
      exact q L1 H1 s1 x1
theorem s_notT (ha : PT X a (tT X.K C xa)) : PT X (.UnaryOp .Not a pos) (tT X.K C (.not xa)) :=
  PT.imp (pt_not ha) fun σ H Q ⟨L, S, ρ, d, S', sm, er, e, q⟩ => by
    have e : (evT C xa ρ >>= fun t => pure (!t)) S = .ok d S' := e
    obtain ⟨t, S1, e1, e⟩ := ok_bind e
    obtain ⟨e3, e4⟩ := ok_pure e
    subst e3 e4
    exact ⟨L, S, ρ, t, S1, sm, er, e1, fun L1 H1 s1 x1 => q L1 H1 s1 x1⟩
/-- a test by the truth of its value -/
theorem s_truth (ha : PE X a (tE X.K C xa)) (he : ∀ whole, isTrue a X.env whole = (do let v ← whole; standAt a.pos; holding [v] (truthy v)))
    (hx : ∀ ρ, evT C xa ρ = (evE C xa ρ >>= tru)) : PT X a (tT X.K C xa) :=
  PT.imp (pt_truth ha he) fun σ H Q ⟨L, S, ρ, d, S', sm, er, e, q⟩ => by
    rw [hx] at e
    obtain ⟨x, S1, e1, e⟩ := ok_bind e
    refine ⟨L, S, ρ, x, S1, sm, er, e1, fun v L1 H1 s1 x1 r1 => ?_⟩
    obtain ⟨h2, rfl⟩ := tru_some e
    exact ⟨d, tru_val s1 r1 h2, q L1 H1 s1 x1⟩

/-! ### rows -/
theorem s_nil : PA X [] (tEs X.K C .nil) :=
  PA.imp pa_nil fun σ H Q ⟨L, S, ρ, d, S', sm, er, e, q⟩ => by
    obtain ⟨e1, e2⟩ := ok_pure e
    subst e1 e2
    exact q [] L H sm (Ext.refl L H) RepL.nil
theorem s_cons {es : List Expr} {xs : Exs} (ha : PE X a (tE X.K C xa)) (hr : PA X es (tEs X.K C xs)) (hs : starEach (a :: es) X.env = (false, eval a X.env) :: starEach es X.env) : PA X (a :: es) (tEs X.K C (.cons xa xs)) :=
  PA.imp (pa_cons ha hr hs) fun σ H Q ⟨L, S, ρ, d, S', sm, er, e, q⟩ => by
    have e : (evE C xa ρ >>= fun x => evEs C xs ρ >>= fun r => pure (x :: r)) S = .ok d S' := e
    obtain ⟨x, S1, e1, e⟩ := ok_bind e
    refine ⟨L, S, ρ, x, S1, sm, er, e1, fun v L1 H1 s1 x1 r1 => ?_⟩
    obtain ⟨r, S2, e2, e⟩ := ok_bind e
    obtain ⟨e3, e4⟩ := ok_pure e
    subst e3 e4
    exact ⟨L1, S1, ρ, r, S2, s1, er.mono x1, e2, fun vs L2 H2 s2 x2 r2 => q (v :: vs) L2 H2 s2 (x1.trans x2) (RepL.cons (r1.mono x2) r2)⟩
theorem evEs_len {C : Ev.Ctx} {ρ : Ev.Env} : ∀ {xs : Exs} {S S' : Sto} {ds : List Val}, evEs C xs ρ S = .ok ds S' → True := fun _ => trivial
/-- a row of values for a function of them -/
theorem compA {K : PySem.W.Frag} {xs : Exs} {f : List Val → M Val} {σ : L2.St} {H : Hp} {Q : VK} {R : List V → Hp → Prop}
    (h : ∃ L S ρ d S', Sim K C.scr L S H ∧ EnvR K C.scr L H ρ σ ∧ (evEs C xs ρ >>= f) S = .ok d S' ∧ Post K C.scr L H d S' Q)
    (k : ∀ vs H1, rB K C.scr f vs H1 Q → R vs H1) : tEs K C xs σ H R := by
  obtain ⟨L, S, ρ, d, S', sm, er, e, q⟩ := h
  obtain ⟨ds, S1, e1, e2⟩ := ok_bind e
  exact ⟨L, S, ρ, ds, S1, sm, er, e1, fun vs L1 H1 s1 x1 r1 => k vs H1 ⟨L1, S1, ds, d, S', s1, r1, e2, q.mono x1⟩⟩
theorem s_tup {es : List Expr} {xs : Exs} {k : Nat} (h : PA X es (tEs X.K C xs)) (hl : es.length ≤ sizeLine) (hn : ∀ ρ S ds S', evEs C xs ρ S = .ok ds S' → ds.length = es.length) : PE X (.Tuple es k pos) (tE X.K C (.tup xs)) :=
  PE.imp (pe_tupF h) fun σ H Q ⟨L, S, ρ, d, S', sm, er, e, q⟩ => by
    have e : (evEs C xs ρ >>= fun r => pure (.tup r)) S = .ok d S' := e
    obtain ⟨r, S1, e1, e⟩ := ok_bind e
    obtain ⟨e3, e4⟩ := ok_pure e
    subst e3 e4
    refine ⟨L, S, ρ, r, S1, sm, er, e1, fun vs L1 H1 s1 x1 r1 => ⟨by rw [r1.length, hn _ _ _ _ e1]; exact hl, (q.mono x1).tup s1 r1⟩⟩
theorem s_lst {es : List Expr} {xs : Exs} (h : PA X es (tEs X.K C xs)) (hl : es.length ≤ sizeLine) (hn : ∀ ρ S ds S', evEs C xs ρ S = .ok ds S' → ds.length = es.length) : PE X (.List es pos) (tE X.K C (.lst xs)) :=
  PE.imp (pe_lst h) fun σ H Q ⟨L, S, ρ, d, S', sm, er, e, q⟩ => by
    have e : (evEs C xs ρ >>= fun r => alloc (.lst r)) S = .ok d S' := e
    obtain ⟨r, S1, e1, e⟩ := ok_bind e
    have e : Out.ok (Val.loc S1.length) (S1 ++ [.lst r]) = .ok d S' := e
    cases e
    refine ⟨L, S, ρ, r, S1, sm, er, e1, fun vs L1 H1 s1 x1 r1 => ⟨by rw [r1.length, hn _ _ _ _ e1]; exact hl, fun p hp => (q.mono x1).lst s1 hp r1⟩⟩
theorem s_lstQ {es : List Expr} {xs : Exs} (h : PA X es (tEs X.K C xs)) (hl : es.length ≤ sizeLine) (hn : ∀ ρ S ds S', evEs C xs ρ S = .ok ds S' → ds.length = es.length) : PE X (.List es pos) (tQ X.K C (.lst xs)) :=
  PE.imp (pe_lst h) fun σ H Q ⟨L, S, ρ, k, ys, S', sm, er, e, q⟩ => by
    have e : (evEs C xs ρ >>= fun r => pure (true, r)) S = .ok (k, ys) S' := e
    obtain ⟨r, S1, e1, e⟩ := ok_bind e
    obtain ⟨e3, e4⟩ := ok_pure e
    subst e4
    have e5 : true = k := congrArg Prod.fst e3
    have e6 : r = ys := congrArg Prod.snd e3
    subst e5 e6
    refine ⟨L, S, ρ, r, S1, sm, er, e1, fun vs L1 H1 s1 x1 r1 => ⟨by rw [r1.length, hn _ _ _ _ e1]; exact hl, fun p hp => ?_⟩⟩
    obtain ⟨x2, s2⟩ := s1.tmp (o := .lst vs) hp
    exact q (.ref p) L1 _ s2 (x1.trans x2) (.inl ⟨rfl, p, vs, rfl, upd_same, r1.mono x2⟩)
theorem s_dic : PE X (.Dict [] [] pos) (tE X.K C .dic) :=
  PE.imp pe_dnewK fun σ H Q ⟨L, S, ρ, d, S', sm, er, e, q⟩ => by
    have e : Out.ok (Val.loc S.length) (S ++ [.dic []]) = .ok d S' := e
    cases e
    intro p hp
    obtain ⟨x2, s2⟩ := sm.alloc (o := .dK []) (ob := .dic []) hp (fun L' H' _ h' => ⟨[], h', rfl, RepL.nil⟩)
    exact q (.ref p) _ _ s2 x2 (rep_loc (by rw [← sm.len]; simp))
/-- any sequence, by its value -/
theorem s_seq (ha : PE X a (tE X.K C xa)) (hx : ∀ ρ, evQ C xa ρ = (evE C xa ρ >>= seqM)) : PE X a (tQ X.K C xa) :=
  PE.imp ha fun σ H Q ⟨L, S, ρ, k, ys, S', sm, er, e, q⟩ => by
    rw [hx] at e
    obtain ⟨x, S1, e1, e⟩ := ok_bind e
    refine ⟨L, S, ρ, x, S1, sm, er, e1, fun v L1 H1 s1 x1 r1 => ?_⟩
    unfold seqM at e
    split at e
    · rename_i z h1
      cases e
      refine q v L1 H1 s1 x1 ?_
      cases x with
      | tup xs => cases h1; exact .inr ⟨rfl, r1⟩
      | loc n =>
        have h1 : (match S'[n]? with | some (.lst xs) => some (true, xs) | _ => none) = some (k, ys) := h1
        split at h1
        · rename_i xs h2
          cases h1
          obtain ⟨p, rfl, hp⟩ := r1.loc
          obtain ⟨vs, g1, rl⟩ := s1.lst_at h2 hp
          exact .inl ⟨rfl, p, vs, rfl, g1, rl⟩
        · cases h1
      | _ => cases h1
    · cases e

/-! ### subscripts -/
theorem s_idx (hu : X.A.units + 66 < cLine) (ha : PE X a (tE X.K C xa)) (hb : PE X b (tE X.K C xb)) (hs : PlainIx b) : PE X (.Subscript a b pos) (tE X.K C (.idx xa xb)) :=
  PE.imp (pe_ix (idx_get (scr := C.scr) hu) ha hb hs) fun σ H Q h => comp2 (f := idxV) h fun _ _ _ z => z
/-- an end of a slice -/
theorem s_part {o : Option Expr} {tl : TO} {xl : Ex} (h : PO X o tl) (hn : (o = none ∧ xl = .non) ∨ (isNon xl = false ∧ ∀ σ H (Q : Option Int → Hp → Prop), tE X.K C xl σ H (fun x H1 => ∃ i, x = .int i ∧ Q (some i) H1) → tl σ H Q))
    (h0 : o = none → ∀ σ H Q, Q none H → tl σ H Q) :
    ∀ (L : List Addr) (S : Sto) (ρ : Ev.Env) (σ : L2.St) (H : Hp) (d : Val) (S' : Sto) (lo : Option Int) (Q : Option Int → Hp → Prop), Sim X.K C.scr L S H → EnvR X.K C.scr L H ρ σ → evE C xl ρ S = .ok d S' → endOf (isNon xl) d = some lo →
      (∀ L' H', Sim X.K C.scr L' S' H' → Ext L H L' H' → Q lo H') → tl σ H Q := by
  intro L S ρ σ H d S' lo Q sm er e el q
  rcases hn with ⟨rfl, rfl⟩ | ⟨hz, k⟩
  · have el : some none = some lo := el
    cases el
    have e : Out.ok Val.non S = .ok d S' := e
    cases e
    exact h0 rfl σ H Q (q L H sm (Ext.refl L H))
  · refine k σ H Q ⟨L, S, ρ, d, S', sm, er, e, fun v L1 H1 s1 x1 r1 => ?_⟩
    rw [hz] at el
    unfold endOf at el
    rw [if_neg Bool.false_ne_true] at el
    split at el
    · rename_i i
      cases el
      exact ⟨i, r1.int, q L1 H1 s1 x1⟩
    · cases el
theorem s_sli {lo hi : Option Expr} {tl th : TO} {xl xh : Ex} {p2 : Pos} (ha : PE X a (tE X.K C xa)) (hl : PO X lo tl) (hh : PO X hi th)
    (kl : ∀ (L : List Addr) (S : Sto) (ρ : Ev.Env) (σ : L2.St) (H : Hp) (d : Val) (S' : Sto) (lo : Option Int) (Q : Option Int → Hp → Prop), Sim X.K C.scr L S H → EnvR X.K C.scr L H ρ σ → evE C xl ρ S = .ok d S' → endOf (isNon xl) d = some lo → (∀ L' H', Sim X.K C.scr L' S' H' → Ext L H L' H' → Q lo H') → tl σ H Q)
    (kh : ∀ (L : List Addr) (S : Sto) (ρ : Ev.Env) (σ : L2.St) (H : Hp) (d : Val) (S' : Sto) (lo : Option Int) (Q : Option Int → Hp → Prop), Sim X.K C.scr L S H → EnvR X.K C.scr L H ρ σ → evE C xh ρ S = .ok d S' → endOf (isNon xh) d = some lo → (∀ L' H', Sim X.K C.scr L' S' H' → Ext L H L' H' → Q lo H') → th σ H Q) :
    PE X (.Subscript a (.Slice lo hi none p2) pos) (tE X.K C (.sli xa xl xh)) :=
  PE.imp (pe_slice (sli_ok (scr := C.scr)) ha hl hh) fun σ H Q ⟨L, S, ρ, d, S', sm, er, e, q⟩ => by
    have e : (evE C xa ρ >>= fun x => evE C xl ρ >>= fun l => evE C xh ρ >>= fun h => sliM C.scr (isNon xl) (isNon xh) x l h) S = .ok d S' := e
    obtain ⟨x, S1, e1, e⟩ := ok_bind e
    refine ⟨L, S, ρ, x, S1, sm, er, e1, fun v L1 H1 s1 x1 r1 => ?_⟩
    obtain ⟨l, S2, e2, e⟩ := ok_bind e
    obtain ⟨h, S3, e3, e⟩ := ok_bind e
    unfold sliM at e
    cases el : endOf (isNon xl) l with
    | none => rw [el] at e; exact (ok_bad e).elim
    | some lo' =>
      cases eh : endOf (isNon xh) h with
      | none => rw [el, eh] at e; exact (ok_bad e).elim
      | some hi' =>
        rw [el, eh] at e
        refine kl L1 S1 ρ σ H1 l S2 lo' _ s1 (er.mono x1) e2 el fun L2 H2 s2 x2 => ?_
        refine kh L2 S2 ρ σ H2 h S3 hi' _ s2 (er.mono (x1.trans x2)) e3 eh fun L3 H3 s3 x3 => ?_
        exact ⟨L3, S3, x, d, S', s3, r1.mono (x2.trans x3), e, q.mono (x1.trans (x2.trans x3))⟩
theorem s_rev {k : Nat} {p1 p2 p3 : Pos} (ha : PE X a (tQ X.K C xa)) : PE X (.Subscript a (.Slice none none (some (.UnaryOp .USub (.Constant (.int 1) k p1) p2)) p3) pos) (tE X.K C (.rev xa)) :=
  PE.imp (pe_revF ha) fun σ H Q ⟨L, S, ρ, d, S', sm, er, e, q⟩ => by
    have e : (evQ C xa ρ >>= fun z => if z.1 then alloc (.lst z.2.reverse) else pure (.tup z.2.reverse)) S = .ok d S' := e
    obtain ⟨⟨k, xs⟩, S1, e1, e⟩ := ok_bind e
    refine ⟨L, S, ρ, k, xs, S1, sm, er, e1, fun v L1 H1 s1 x1 r1 => ?_⟩
    cases k with
    | false =>
      obtain ⟨e2, e3⟩ := ok_pure (S := S1) e
      subst e2 e3
      rcases r1 with ⟨z, _⟩ | ⟨_, rt⟩
      · cases z
      · obtain ⟨p, ws, rfl, ta, rl⟩ := rt.tup
        exact ⟨p, ws, rfl, .inr ⟨ta.sq, (q.mono x1).tup s1 rl.reverse⟩⟩
    | true =>
      have e : Out.ok (Val.loc S1.length) (S1 ++ [.lst xs.reverse]) = .ok d S' := e
      cases e
      rcases r1 with ⟨_, p, ws, rfl, g1, rl⟩ | ⟨z, _⟩
      · exact ⟨p, ws, rfl, .inl ⟨SqL.of g1, fun p' hp' => (q.mono x1).lst s1 hp' rl.reverse⟩⟩
      · cases z
end
end Ev

end

section
set_option maxHeartbeats 1000000
/-! Ev7: calls. -/
namespace Ev
open PySem L2 PyProof.Rows

/-- a def keeps a promise wherever no repr is under way, and lets nothing out -/
structure FnG (P : Program) (w : World) (K : PySem.W.Frag) (mg : Str → Option Value) (base : Heap) (k : Nat) (f : Addr) (fd : FuncData) (ps : List Str) (sp : Sp) : Prop where
  len : ∀ vs H Q E, sp vs H Q E → vs.length = ps.length
  run : ∀ (A : Around) (outer : List PySem.Env) (s : Shared) (H : Hp) (args : Args) (us : List Value) (vs : List V) (Q : VK) (E : XK), Room k A → A.guards = some [] → Env0 P w K mg base A outer s H → BindsTo s fd args (ps.zip us) → Vals vs us → sp vs H Q E →
    codeAny (model P w) A (.call (.ref f) args) (CR CX0 outer P w H s Q E) s

/-- the promise of a function of values -/
def spM (K : PySem.W.Frag) (scr : List Int) (n : Nat) (f : List Val → M Val) : Sp := fun vs H Q _ => vs.length = n ∧ rB K scr f vs H Q

section
variable {X : Cx} {C : Ev.Ctx} {k : Nat} {f : Addr} {fd : FuncData} {ps : List Str} {sp : Sp} {y : Str} {p pos : Pos} {e : Expr} {es : List Expr} {t : TA}
theorem run_fnG {pins : List (Addr × Obj)} {σ : L2.St} {H : Hp} {s : Shared} {Q : VK} {us : List Value} {vs : List V} (F : FnG X.prog X.w X.K X.mg X.base k f fd ps sp) (hr : Room k X.A) (hg : X.A.guards = some []) (hb : Binds X.K fd ps [])
    (I : Inv X pins σ H s) (r : Vals vs us) (h : sp vs H Q E0) : wpAny (model X.prog X.w) X.A (call (.ref f) us) (EP X pins σ Q) X.xe s := by
  have hl : (us ++ ([] : List Value)).length = ps.length := by rw [List.append_nil, ← r.length]; exact F.len _ _ _ _ h
  have hb' := hb s us I.kIn hl
  rw [List.append_nil] at hb'
  refine wpAny_call (codeAny_mono (F.run X.A X.stack s H ⟨us, []⟩ us vs Q E0 hr hg I.env0 hb' r h) fun r s' hq => ?_)
  cases r with
  | error e => exact False.elim hq
  | ok fl =>
    cases fl with
    | ret u => exact I.after hq
    | next => exact False.elim hq
    | brk => exact False.elim hq
    | cont => exact False.elim hq
theorem pe_callG (F : FnG X.prog X.w X.K X.mg X.base k f fd ps sp) (hr : Room k X.A) (hgd : X.A.guards = some []) (hg : Gl X y) (hm : X.mg y = some (.ref f)) (hk : PySem.W.keepIn X.K (.ref f) = true) (hb : Binds X.K fd ps [])
    (ha : PA X (e :: es) t) (hdb : (y == ("__debug__" : Str)) = false) (he : starEach (e :: es) X.env = (false, eval e X.env) :: starEach es X.env) (hpl : (backTo pos (starEach es X.env)).any (·.1) = false) :
    PE X (.Call (.Name y p) (e :: es) [] pos) (tCall sp [] E0 t) := by
  refine ⟨fun pins s σ H Q I h => ?_⟩
  refine wpAny_Call_Name_kw (ld_glob I hg hm ?_ hdb)
  refine PySem.W.callWith_K (h₀ := X.base) I.ok.mod.kin hk (thn (ha.run pos pins s σ H _ I h) fun us s1 ⟨vs, H1, I1, r, q⟩ => ⟨I1.kIn, ?_⟩) he hpl
  have q : sp (vs ++ []) H1 Q E0 := q
  rw [List.append_nil] at q
  exact run_fnG F hr hgd hb I1 r q
theorem pe_callG0 (F : FnG X.prog X.w X.K X.mg X.base k f fd ps sp) (hr : Room k X.A) (hgd : X.A.guards = some []) (hg : Gl X y) (hm : X.mg y = some (.ref f)) (hk : PySem.W.keepIn X.K (.ref f) = true) (hb : Binds X.K fd ps [])
    (hdb : (y == ("__debug__" : Str)) = false) : PE X (.Call (.Name y p) [] [] pos) (tCall sp [] E0 tNil) := by
  refine ⟨fun pins s σ H Q I h => ?_⟩
  refine wpAny_Call_Name_kw (ld_glob I hg hm ?_ hdb)
  have h : sp ([] ++ []) H Q E0 := h
  exact PySem.W.callWith_K0 I.kIn hk (run_fnG (us := []) F hr hgd hb I .nil h)

/-- f(..), a def of the text -/
theorem s_call {xs : Exs} {n : Nat} (F : FnG X.prog X.w X.K X.mg X.base k f fd ps (spM X.K C.scr n (C.call y))) (hr : Room k X.A) (hgd : X.A.guards = some []) (hg : Gl X y) (hm : X.mg y = some (.ref f)) (hk : PySem.W.keepIn X.K (.ref f) = true) (hb : Binds X.K fd ps [])
    (ha : PA X (e :: es) (tEs X.K C xs)) (hdb : (y == ("__debug__" : Str)) = false) (h1 : starEach (e :: es) X.env = (false, eval e X.env) :: starEach es X.env) (h2 : (backTo pos (starEach es X.env)).any (·.1) = false)
    (hn : ∀ ρ S ds S', evEs C xs ρ S = .ok ds S' → ds.length = n) : PE X (.Call (.Name y p) (e :: es) [] pos) (tE X.K C (.call y xs)) :=
  PE.imp (pe_callG F hr hgd hg hm hk hb ha hdb h1 h2) fun σ H Q ⟨L, S, ρ, d, S', sm, er, e, q⟩ => by
    have e : (evEs C xs ρ >>= C.call y) S = .ok d S' := e
    obtain ⟨ds, S1, e1, e2⟩ := ok_bind e
    refine ⟨L, S, ρ, ds, S1, sm, er, e1, fun vs L1 H1 s1 x1 r1 => ?_⟩
    show spM X.K C.scr n (C.call y) (vs ++ []) H1 Q E0
    rw [List.append_nil]
    exact ⟨by rw [r1.length]; exact hn _ _ _ _ e1, L1, S1, ds, d, S', s1, r1, e2, q.mono x1⟩
theorem s_call0 (F : FnG X.prog X.w X.K X.mg X.base k f fd ps (spM X.K C.scr 0 (C.call y))) (hr : Room k X.A) (hgd : X.A.guards = some []) (hg : Gl X y) (hm : X.mg y = some (.ref f)) (hk : PySem.W.keepIn X.K (.ref f) = true) (hb : Binds X.K fd ps [])
    (hdb : (y == ("__debug__" : Str)) = false) : PE X (.Call (.Name y p) [] [] pos) (tE X.K C (.call y .nil)) :=
  PE.imp (pe_callG0 F hr hgd hg hm hk hb hdb) fun σ H Q ⟨L, S, ρ, d, S', sm, er, e, q⟩ => by
    have e : C.call y [] S = .ok d S' := e
    exact ⟨rfl, L, S, [], d, S', sm, RepL.nil, e, q⟩
/-- built-ins -/
theorem s_bi {xs : Exs} {g : List Val → M Val} {fn : String} {id : String} (hc : CallR X (.builtin id) (rB X.K C.scr g)) (hg : Gl X y) (hm : X.mg y = none) (hv : bootBuiltins y = some (.builtin id)) (ha : PA X (e :: es) (tEs X.K C xs))
    (hn : y ≠ "__name__") (hdb : (y == ("__debug__" : Str)) = false) (h1 : starEach (e :: es) X.env = (false, eval e X.env) :: starEach es X.env) (h2 : (backTo pos (starEach es X.env)).any (·.1) = false) (hx : ∀ vs, biV fn vs = g vs) :
    PE X (.Call (.Name y p) (e :: es) [] pos) (tE X.K C (.bi fn xs)) :=
  PE.imp (pe_callB hc hg hm hv ha hn hdb h1 h2) fun σ H Q ⟨L, S, ρ, d, S', sm, er, e, q⟩ => by
    have e : (evEs C xs ρ >>= biV fn) S = .ok d S' := e
    obtain ⟨ds, S1, e1, e2⟩ := ok_bind e
    rw [hx] at e2
    exact ⟨L, S, ρ, ds, S1, sm, er, e1, fun vs L1 H1 s1 x1 r1 => ⟨L1, S1, ds, d, S', s1, r1, e2, q.mono x1⟩⟩
theorem s_biTy {xs : Exs} {g : List Val → M Val} {fn : String} {T : String} (hc : CallR X (.type T) (rB X.K C.scr g)) (hg : Gl X y) (hm : X.mg y = none) (hv : bootBuiltins y = some (.type T)) (ha : PA X (e :: es) (tEs X.K C xs))
    (hn : y ≠ "__name__") (hdb : (y == ("__debug__" : Str)) = false) (h1 : starEach (e :: es) X.env = (false, eval e X.env) :: starEach es X.env) (h2 : (backTo pos (starEach es X.env)).any (·.1) = false) (hx : ∀ vs, biV fn vs = g vs) :
    PE X (.Call (.Name y p) (e :: es) [] pos) (tE X.K C (.bi fn xs)) :=
  PE.imp (pe_callTy hc hg hm hv ha hn hdb h1 h2) fun σ H Q ⟨L, S, ρ, d, S', sm, er, e, q⟩ => by
    have e : (evEs C xs ρ >>= biV fn) S = .ok d S' := e
    obtain ⟨ds, S1, e1, e2⟩ := ok_bind e
    rw [hx] at e2
    exact ⟨L, S, ρ, ds, S1, sm, er, e1, fun vs L1 H1 s1 x1 r1 => ⟨L1, S1, ds, d, S', s1, r1, e2, q.mono x1⟩⟩
theorem paQ {xa : Ex} (ha : PE X e (tQ X.K C xa)) (h1 : starEach [e] X.env = (false, eval e X.env) :: starEach [] X.env) : PA X [e] (tCons (tQ X.K C xa) tNil) := pa_cons ha pa_nil h1
theorem s_sq {xa : Ex} {fn id : String} (hc : CallR X (.builtin id) (rSq X.K C.scr (sqV fn))) (hg : Gl X y) (hm : X.mg y = none) (hv : bootBuiltins y = some (.builtin id)) (ha : PE X e (tQ X.K C xa))
    (hn : y ≠ "__name__") (hdb : (y == ("__debug__" : Str)) = false) (h1 : starEach [e] X.env = (false, eval e X.env) :: starEach [] X.env) :
    PE X (.Call (.Name y p) [e] [] pos) (tE X.K C (.sq fn xa)) :=
  PE.imp (pe_callB hc hg hm hv (paQ ha h1) hn hdb h1 rfl) fun σ H Q ⟨L, S, ρ, d, S', sm, er, e, q⟩ => by
    have e : (evQ C xa ρ >>= fun z => sqV fn z.1 z.2) S = .ok d S' := e
    obtain ⟨⟨k, xs⟩, S1, e1, e2⟩ := ok_bind e
    exact ⟨L, S, ρ, k, xs, S1, sm, er, e1, fun v L1 H1 s1 x1 r1 => ⟨L1, S1, k, xs, d, S', v, s1, rfl, r1, e2, q.mono x1⟩⟩
theorem s_sqTy {xa : Ex} {fn T : String} (hc : CallR X (.type T) (rSq X.K C.scr (sqV fn))) (hg : Gl X y) (hm : X.mg y = none) (hv : bootBuiltins y = some (.type T)) (ha : PE X e (tQ X.K C xa))
    (hn : y ≠ "__name__") (hdb : (y == ("__debug__" : Str)) = false) (h1 : starEach [e] X.env = (false, eval e X.env) :: starEach [] X.env) :
    PE X (.Call (.Name y p) [e] [] pos) (tE X.K C (.sq fn xa)) :=
  PE.imp (pe_callTy hc hg hm hv (paQ ha h1) hn hdb h1 rfl) fun σ H Q ⟨L, S, ρ, d, S', sm, er, e, q⟩ => by
    have e : (evQ C xa ρ >>= fun z => sqV fn z.1 z.2) S = .ok d S' := e
    obtain ⟨⟨k, xs⟩, S1, e1, e2⟩ := ok_bind e
    exact ⟨L, S, ρ, k, xs, S1, sm, er, e1, fun v L1 H1 s1 x1 r1 => ⟨L1, S1, k, xs, d, S', v, s1, rfl, r1, e2, q.mono x1⟩⟩

/-! ### methods: the rule is chosen by what the receiver is -/
variable {o : Expr} {xo : Ex} {apos cpos : Pos}
theorem tyM_some {x : Val} {S S' : Sto} {T : String} (h : tyM x S = .ok T S') : tyName S x = some T ∧ S' = S := by
  unfold tyM at h
  split at h
  · rename_i c h1; cases h; exact ⟨h1, rfl⟩
  · cases h
/-- the receiver's type: also a plain tuple -/
def tyF (K : PySem.W.Frag) (T : String) (x : V) (H : Hp) : Prop := tyV K T x H ∨ (T = "tuple" ∧ ∃ p o vs, x = .ref p ∧ H p = some (.frz o (.tup vs)) ∧ PlainT o)
theorem tyF_is {pins : List (Addr × Obj)} {σ : L2.St} {H : Hp} {s : Shared} {T : String} {x : V} {v : Value} (I : L2.Inv X pins σ H s) (r : RelV x v) (ty : tyF X.K T x H) :
    s.TypeIs v T ∧ ∀ a, v = .ref a → ∃ ob, s.heap.get? a = some ob ∧ ob.dict = none := by
  rcases ty with ty | ⟨rfl, p, o, vs, rfl, h, po⟩
  · exact tyV_is I r ty
  · obtain rfl : v = .ref p := r
    obtain ⟨e, _⟩ := (show ObjOk X.prog X.w H s.heap p (.frz o (.tup vs)) from I.hok p _ h)
    exact ⟨⟨o, e, po.1⟩, fun a ea => by cases ea; exact ⟨o, e, po.2⟩⟩
def tBF (K : PySem.W.Frag) (T : String) (r : V → List V → Hp → VK → Prop) (to : TE) (t : TA) : TE := fun σ H Q => to σ H fun x H1 => tyF K T x H1 ∧ t σ H1 fun xs H2 => r x xs H2 Q
theorem pe_bf {e : Expr} {es : List Expr} {to : TE} {t : TA} {name : Str} {T id : String} {r : V → List V → Hp → VK → Prop} (pa : PlainAttrs T) (slot : Slot T name id) (hty : typeOf (.builtin id) = pure (.type "method_descriptor")) (hm : MtR X id r) (ho : PE X o to) (ha : PA X (e :: es) t)
    (hbase : attributeBase o name X.env (eval o X.env) = eval o X.env)
    (hfew : ((backTo cpos (starEach (e :: es) X.env)).all (fun x => !x.1) && (backToKw cpos (keywordEach [] X.env)).all (fun x => x.1.isSome) && decide ((e :: es).length + ([] : List Keyword).length + (if ([] : List Keyword).isEmpty then 0 else 1) < 30)) = true)
    (hline : (apos.endLine == cpos.line) = true) (hs : starEach (e :: es) X.env = (false, eval e X.env) :: starEach es X.env) (hplain : (backTo cpos (starEach es X.env)).any (·.1) = false) : PE X (.Call (.Attribute o name apos) (e :: es) [] cpos) (tBF X.K T r to t) := by
  refine ⟨fun pins s σ H Q I h => wpAny_Call_method_late hbase hfew hline rfl (thn (ho.run pins s σ H _ I h) fun v s1 ⟨x, H1, I1, r1, ty, q1⟩ => ?_)⟩
  obtain ⟨h1, h2⟩ := tyF_is I1 r1 ty
  refine ⟨T, id, pa, slot, hty, h1, h2, ?_⟩
  have hA := ha.run cpos pins s1 σ H1 _ I1 q1
  rw [hs] at hA ⊢
  refine Calls.callWith_builtin ?_ (Calls.evalArgs_plain (thn hA fun us s2 ⟨vs, H2, I2, r2, q2⟩ => hm pins s2 σ H2 x vs v us Q I2 r1 r2 q2))
  show (false || (backTo cpos (starEach es X.env)).any (·.1)) = false
  rw [hplain]; rfl
theorem tyF_of {K : PySem.W.Frag} {scr : List Int} {L : List Addr} {H : Hp} {S : Sto} {x : Val} {v : V} {T : String} (r : Rep K scr L H x v) (h : tyName S x = some T) (hv : (T = "list" ∨ T = "str" ∨ T = "dict") → tyV K T v H) (hT : T = "list" ∨ T = "str" ∨ T = "dict" ∨ T = "tuple") : tyF K T v H := by
  rcases hT with z | z | z | rfl
  · exact .inl (hv (.inl z))
  · exact .inl (hv (.inr (.inl z)))
  · exact .inl (hv (.inr (.inr z)))
  · cases x with
    | tup xs =>
      obtain ⟨p, vs, rfl, ⟨o, g, _, po⟩, _⟩ := r.tup
      exact .inr ⟨rfl, p, o, vs, rfl, g, po⟩
    | loc n =>
      have h : (match S[n]? with | some (.lst _) => some "list" | some (.dic _) => some "dict" | none => none) = some "tuple" := h
      split at h
      · have := Option.some.inj h; exact absurd this (by decide)
      · have := Option.some.inj h; exact absurd this (by decide)
      · cases h
    | ty n => cases h
    | _ => (have := Option.some.inj h; exact absurd this (by decide))
theorem tyV_of {K : PySem.W.Frag} {scr : List Int} {L : List Addr} {H : Hp} {S : Sto} {x : Val} {v : V} {T : String} (sm : Sim K scr L S H) (r : Rep K scr L H x v) (h : tyName S x = some T) (hT : T = "list" ∨ T = "str" ∨ T = "dict") : tyV K T v H := by
  cases x with
  | non => cases h; rcases hT with h | h | h <;> (exact absurd h (by decide))
  | bl b => cases h; rcases hT with h | h | h <;> (exact absurd h (by decide))
  | int b => cases h; rcases hT with h | h | h <;> (exact absurd h (by decide))
  | tup b => cases h; rcases hT with h | h | h <;> (exact absurd h (by decide))
  | ty b => cases h
  | str b => cases h; rw [r.str]; rfl
  | loc n =>
    obtain ⟨p, rfl, hp⟩ := r.loc
    have h : (match S[n]? with
      | some (.lst _) => some "list"
      | some (.dic _) => some "dict"
      | none => none) = some T := h
    split at h
    · rename_i xs h1
      cases h
      obtain ⟨vs, g1, rl⟩ := sm.lst_at h1 hp
      exact .inl ⟨rfl, vs, SqL.of g1⟩
    · rename_i kvs h1
      cases h
      obtain ⟨ws, g1, _⟩ := sm.dic_at h1 hp
      exact .inr (.inr (.inl ⟨rfl, .inl ⟨ws, g1⟩⟩))
    · cases h
  | scr =>
    cases h
    obtain ⟨p, rfl, hp⟩ := r.ofScr
    exact .inl ⟨rfl, _, hp.sq⟩
/-- a method with arguments, its type known at the run -/
theorem s_met {xs : Exs} {m : Str} {mn : String} (ho : PE X o (tE X.K C xo))
    (rules : ∀ T, (∀ x vs S d S', metV T mn x vs S = .ok d S' → (T = "list" ∨ T = "str" ∨ T = "dict" ∨ T = "tuple") ∧ PE X (.Call (.Attribute o m apos) es [] cpos) (tBF X.K T (rMt X.K C.scr (metV T mn)) (tE X.K C xo) (tEs X.K C xs)))) :
    PE X (.Call (.Attribute o m apos) es [] cpos) (tE X.K C (.met xo mn xs)) := by
  refine ⟨fun pins s σ H Q I h => ?_⟩
  obtain ⟨L, S, ρ, d, S', sm, er, e, q⟩ := h
  have e : (evE C xo ρ >>= fun x => tyM x >>= fun T => evEs C xs ρ >>= fun r => metV T mn x r) S = .ok d S' := e
  obtain ⟨x, S1, e1, ea⟩ := ok_bind e
  obtain ⟨T, S2, e2, eb⟩ := ok_bind ea
  obtain ⟨h2, e22⟩ := tyM_some e2
  obtain ⟨ds, S3, e3, ec⟩ := ok_bind eb
  subst e22
  obtain ⟨hT, rule⟩ := rules T x ds S3 d S' ec
  refine rule.run pins s σ H Q I ⟨L, S, ρ, x, _, sm, er, e1, fun v L1 H1 s1 x1 r1 => ⟨tyF_of r1 h2 (tyV_of s1 r1 h2) hT, ?_⟩⟩
  exact ⟨L1, _, ρ, ds, S3, s1, er.mono x1, e3, fun vs L2 H2 s2 x2 r2 => ⟨L2, S3, x, ds, d, S', s2, r1.mono x2, r2, ec, q.mono (x1.trans x2)⟩⟩
theorem s_met0 {m : Str} {mn : String} (ho : PE X o (tE X.K C xo))
    (rules : ∀ T, (∀ x S d S', metV T mn x [] S = .ok d S' → (T = "list" ∨ T = "str" ∨ T = "dict") ∧ PE X (.Call (.Attribute o m apos) [] [] cpos) (tBM0 X.K T (rMt X.K C.scr (metV T mn)) (tE X.K C xo)))) :
    PE X (.Call (.Attribute o m apos) [] [] cpos) (tE X.K C (.met xo mn .nil)) := by
  refine ⟨fun pins s σ H Q I h => ?_⟩
  obtain ⟨L, S, ρ, d, S', sm, er, e, q⟩ := h
  have e : (evE C xo ρ >>= fun x => tyM x >>= fun T => metV T mn x []) S = .ok d S' := e
  obtain ⟨x, S1, e1, ea⟩ := ok_bind e
  obtain ⟨T, S2, e2, eb⟩ := ok_bind ea
  obtain ⟨h2, e22⟩ := tyM_some e2
  subst e22
  obtain ⟨hT, rule⟩ := rules T x _ d S' eb
  exact rule.run pins s σ H Q I ⟨L, S, ρ, x, _, sm, er, e1, fun v L1 H1 s1 x1 r1 => ⟨tyV_of s1 r1 h2 hT, L1, _, x, [], d, S', s1, r1, RepL.nil, eb, q.mono x1⟩⟩
theorem s_ext {xe : Ex} {m : Str} (ho : PE X o (tE X.K C xo)) (he : PE X e (tQ X.K C xe))
    (rule : ∀ r, MtR X "list.extend" r → PE X (.Call (.Attribute o m apos) [e] [] cpos) (tBM X.K "list" r (tE X.K C xo) (tCons (tQ X.K C xe) tNil))) :
    PE X (.Call (.Attribute o m apos) [e] [] cpos) (tE X.K C (.ext xo xe)) :=
  PE.imp (rule _ (ext_okV (scr := C.scr))) fun σ H Q ⟨L, S, ρ, d, S', sm, er, e, q⟩ => by
    have e : (evE C xo ρ >>= fun x => tyM x >>= fun T => evQ C xe ρ >>= fun z => if T = "list" ∧ z.1 = true then extV x z.2 else bad) S = .ok d S' := e
    obtain ⟨x, S1, e1, ea⟩ := ok_bind e
    obtain ⟨T, S2, e2, eb⟩ := ok_bind ea
    obtain ⟨h2, e22⟩ := tyM_some e2
    obtain ⟨⟨k, ys⟩, S3, e3, ec⟩ := ok_bind eb
    subst e22
    by_cases hz : T = "list" ∧ k = true
    · rw [if_pos hz] at ec
      obtain ⟨rfl, rfl⟩ := hz
      refine ⟨L, S, ρ, x, _, sm, er, e1, fun v L1 H1 s1 x1 r1 => ⟨tyV_of s1 r1 h2 (.inl rfl), ?_⟩⟩
      exact ⟨L1, _, ρ, true, ys, S3, s1, er.mono x1, e3, fun w L2 H2 s2 x2 r2 => ⟨L2, S3, x, ys, d, S', w, s2, r1.mono x2, rfl, r2, ec, q.mono (x1.trans x2)⟩⟩
    · rw [if_neg hz] at ec; exact (ok_bad ec).elim
end
end Ev

end

section
set_option maxHeartbeats 1000000
/-! Ev8: what is walked; targets; comprehensions. -/
namespace Ev
open PySem L2 PyProof.Rows

/-- a value as it lies; a pair that is unpacked at once may be any tuple -/
def RepB (K : PySem.W.Frag) (scr : List Int) (L : List Addr) (H : Hp) (b : Bool) (d : Val) (v : V) : Prop :=
  Rep K scr L H d v ∨ (b = true ∧ ∃ xs a vs, d = .tup xs ∧ v = .ref a ∧ SqT K H a vs ∧ RepL K scr L H xs vs)
/-- an iterator goes through the items of w, as long as what is held stands still; b: they are unpacked at once -/
def Walks (K : PySem.W.Frag) (scr : List Int) (b : Bool) (J : L2.It) (w : Walk) (L0 : List Addr) (H0 : Hp) : Prop :=
  ∀ (L : List Addr) (S : Sto) (H : Hp), Ext L0 H0 L H → Sim K scr L S H → still w.held S = .ok () S → ∀ i : Nat,
    (∀ d, w.xs[i]? = some d → J.go i H ∧ ∀ x H', J.yld i H x H' → Ext L H L H' ∧ Sim K scr L S H' ∧ RepB K scr L H' b d x) ∧ (w.xs.length ≤ i → J.stop i H)
def tI (K : PySem.W.Frag) (C : Ev.Ctx) (b : Bool) (it : Ev.It) : TI := fun σ H R => ∃ L S ρ w S', Sim K C.scr L S H ∧ EnvR K C.scr L H ρ σ ∧ evI C it ρ S = .ok w S' ∧ ∀ J L' H', Sim K C.scr L' S' H' → Ext L H L' H' → Walks K C.scr b J w L' H' → R J H'

section
variable {K : PySem.W.Frag} {scr : List Int} {L0 : List Addr} {H0 : Hp} {bb : Bool}
theorem still_ok {h : List (Nat × List Val)} {S S' : Sto} (e : still h S = .ok () S') : S' = S ∧ ∀ p ∈ h, S[p.1]? = some (.lst p.2) := by
  unfold still at e
  by_cases hz : (h.all fun p => decide (S[p.1]? = some (.lst p.2))) = true
  · rw [if_pos hz] at e
    cases e
    exact ⟨rfl, fun p hp => of_decide_eq_true (List.all_eq_true.mp hz p hp)⟩
  · rw [if_neg hz] at e; cases e
theorem walks_list {n : Nat} {a : Addr} {xs : List Val} (ha : L0[n]? = some a) : Walks K scr bb (Itl K a) ⟨xs, [(n, xs)]⟩ L0 H0 := by
  intro L S H x sm st i
  have h1 : S[n]? = some (.lst xs) := (still_ok st).2 (n, xs) (by simp)
  obtain ⟨vs, g1, rl⟩ := sm.lst_at h1 (x.at ha)
  have hl := rl.length
  refine ⟨fun d hd => ?_, fun hi => ?_⟩
  · obtain ⟨v, h2, h3⟩ := rl.get hd
    refine ⟨⟨vs, v, SqL.of g1, h2⟩, fun y H' hy => ?_⟩
    obtain ⟨rfl, hy⟩ := hy
    have h4 := hy vs (SqL.of g1)
    rw [h2] at h4
    cases h4
    exact ⟨Ext.refl L _, sm, .inl h3⟩
  · have hi : xs.length ≤ i := hi
    exact ⟨vs, SqL.of g1, by omega⟩
theorem walks_tup {a : Addr} {xs : List Val} {vs : List V} (ta : TupAt L0 H0 a vs) (rl : RepL K scr L0 H0 xs vs) : Walks K scr bb (Itt K a) ⟨xs, []⟩ L0 H0 := by
  intro L S H x sm st i
  have ta := ta.mono x
  have rl := rl.mono x
  have hl := rl.length
  refine ⟨fun d hd => ?_, fun hi => ?_⟩
  · obtain ⟨v, h2, h3⟩ := rl.get hd
    refine ⟨⟨vs, v, ta.sq, h2⟩, fun y H' hy => ?_⟩
    obtain ⟨rfl, hy⟩ := hy
    have h4 := hy vs ta.sq
    rw [h2] at h4
    cases h4
    exact ⟨Ext.refl L _, sm, .inl h3⟩
  · have hi : xs.length ≤ i := hi
    exact ⟨vs, ta.sq, by omega⟩
theorem walks_str (z : Str) : Walks K scr bb (Its z) ⟨signs z, []⟩ L0 H0 := by
  intro L S H x sm st i
  refine ⟨fun d hd => ?_, fun hi => ?_⟩
  · have hd : (signs z)[i]? = some d := hd
    unfold signs at hd
    rw [List.getElem?_map] at hd
    cases hc : z.cps.toList[i]? with
    | none => rw [hc] at hd; cases hd
    | some c =>
      rw [hc] at hd
      cases hd
      have hc' : z.cps[i]? = some c := by simpa using hc
      have hlt : i < z.cps.size := (Array.getElem?_eq_some_iff.mp hc').1
      refine ⟨hlt, fun y H' hy => ?_⟩
      obtain ⟨rfl, c', h1, rfl⟩ := hy
      rw [hc'] at h1
      cases h1
      exact ⟨Ext.refl L _, sm, .inl rep_str⟩
  · have hi : (signs z).length ≤ i := hi
    unfold signs at hi
    rw [List.length_map, Array.length_toList] at hi
    exact hi
theorem walks_rng (lo hi : Int) : Walks K scr bb (Itr lo (hi - lo).toNat) ⟨rng lo hi, []⟩ L0 H0 := by
  intro L S H x sm st i
  refine ⟨fun d hd => ?_, fun hi' => ?_⟩
  · have hd : (rng lo hi)[i]? = some d := hd
    unfold rng at hd
    rw [List.getElem?_map] at hd
    cases hc : (List.range (hi - lo).toNat)[i]? with
    | none => rw [hc] at hd; cases hd
    | some c =>
      rw [hc] at hd
      cases hd
      have hlt : i < (List.range (hi - lo).toNat).length := (List.getElem?_eq_some_iff.mp hc).1
      rw [List.length_range] at hlt
      rw [List.getElem?_range hlt] at hc
      cases hc
      refine ⟨hlt, fun y H' hy => ?_⟩
      obtain ⟨rfl, rfl⟩ := hy
      exact ⟨Ext.refl L _, sm, .inl rep_int⟩
  · have hi' : (rng lo hi).length ≤ i := hi'
    unfold rng at hi'
    rw [List.length_map, List.length_range] at hi'
    exact hi'
/-- pairs of two rows: what is asked at each turn -/
theorem walks_zip2 {J : L2.It} {xs ys : List Val} {h : List (Nat × List Val)}
    (k : ∀ (L : List Addr) (S : Sto) (H : Hp), Ext L0 H0 L H → Sim K scr L S H → still h S = .ok () S → ∃ vs ws, RepL K scr L H xs vs ∧ RepL K scr L H ys ws ∧
      (∀ i x y, vs[i]? = some x → ws[i]? = some y → J.go i H ∧ ∀ z H', J.yld i H z H' → ∃ T, z = .ref T ∧ H T = none ∧ H' = upd H T (.tup [x, y])) ∧ ∀ i, (vs.length ≤ i ∨ ws.length ≤ i) → J.stop i H) :
    Walks K scr true J ⟨(xs.zip ys).map fun p => .tup [p.1, p.2], h⟩ L0 H0 := by
  intro L S H x sm st i
  obtain ⟨vs, ws, r1, r2, go, stop⟩ := k L S H x sm st
  have l1 := r1.length
  have l2 := r2.length
  refine ⟨fun d hd => ?_, fun hi => ?_⟩
  · have hd : ((xs.zip ys).map fun p => Val.tup [p.1, p.2])[i]? = some d := hd
    rw [List.getElem?_map] at hd
    cases hc : (xs.zip ys)[i]? with
    | none => rw [hc] at hd; cases hd
    | some p =>
      rw [hc] at hd
      cases hd
      obtain ⟨h1, h2⟩ := List.getElem?_zip_eq_some.mp hc
      obtain ⟨v, g1, g2⟩ := r1.get h1
      obtain ⟨w', g3, g4⟩ := r2.get h2
      obtain ⟨g5, g6⟩ := go i v w' g1 g3
      refine ⟨g5, fun z H' hz => ?_⟩
      obtain ⟨T, rfl, hT, rfl⟩ := g6 z H' hz
      obtain ⟨x2, s2⟩ := sm.tmp (o := .tup [v, w']) hT
      exact ⟨x2, s2, .inr ⟨rfl, _, T, _, rfl, rfl, SqT.of upd_same, RepL.cons (g2.mono x2) (RepL.cons (g4.mono x2) RepL.nil)⟩⟩
  · have hi : ((xs.zip ys).map fun p => Val.tup [p.1, p.2]).length ≤ i := hi
    rw [List.length_map, List.length_zip] at hi
    exact stop i (by omega)
/-- pairs of a place and an item -/
theorem walks_enum2 {J : L2.It} {xs : List Val} {h : List (Nat × List Val)}
    (k : ∀ (L : List Addr) (S : Sto) (H : Hp), Ext L0 H0 L H → Sim K scr L S H → still h S = .ok () S → ∃ vs, RepL K scr L H xs vs ∧
      (∀ (i : Nat) x, vs[i]? = some x → J.go i H ∧ ∀ z H', J.yld i H z H' → ∃ T, z = .ref T ∧ H T = none ∧ H' = upd H T (.tup [.int (i : Nat), x])) ∧ ∀ i, vs.length ≤ i → J.stop i H) :
    Walks K scr true J ⟨xs.zipIdx.map fun p => .tup [.int (p.2 : Nat), p.1], h⟩ L0 H0 := by
  intro L S H x sm st i
  obtain ⟨vs, rl, go, stop⟩ := k L S H x sm st
  have hl := rl.length
  refine ⟨fun d hd => ?_, fun hi => ?_⟩
  · have hd : (xs.zipIdx.map fun p => Val.tup [.int (p.2 : Nat), p.1])[i]? = some d := hd
    rw [List.getElem?_map, List.getElem?_zipIdx] at hd
    cases hc : xs[i]? with
    | none => rw [hc] at hd; cases hd
    | some p =>
      rw [hc] at hd
      cases hd
      obtain ⟨v, h2, h3⟩ := rl.get hc
      obtain ⟨g1, g2⟩ := go i v h2
      refine ⟨g1, fun z H' hz => ?_⟩
      obtain ⟨T, rfl, hT, rfl⟩ := g2 z H' hz
      obtain ⟨x2, s2⟩ := sm.tmp (o := .tup [.int (i : Nat), v]) hT
      refine ⟨x2, s2, .inr ⟨rfl, _, T, _, rfl, rfl, SqT.of upd_same, RepL.cons ?_ (RepL.cons (h3.mono x2) RepL.nil)⟩⟩
      rw [Nat.zero_add]
      exact rep_int
  · have hi : (xs.zipIdx.map fun p => Val.tup [.int (p.2 : Nat), p.1]).length ≤ i := hi
    rw [List.length_map, List.length_zipIdx] at hi
    exact stop i (by omega)
end

section
variable {X : Cx} {C : Ev.Ctx} {tg a b e : Expr} {xa xb : Ex} {p pos : Pos} {bb : Bool}
theorem s_iter (ha : PE X a (tE X.K C xa)) : PI X tg a (tI X.K C bb (.seq xa)) := by
  refine ⟨fun pins s σ H R I h => ?_⟩
  obtain ⟨L, S, ρ, w, S', sm, er, e, q⟩ := h
  have e : (evE C xa ρ >>= walkV) S = .ok w S' := e
  obtain ⟨x, S1, e1, e2⟩ := ok_bind e
  cases x with
  | str z =>
    have e2 : Out.ok (⟨signs z, []⟩ : Walk) S1 = .ok w S' := e2
    cases e2
    exact (pi_str ha).run pins s σ H R I ⟨L, S, ρ, _, _, sm, er, e1, fun v L1 H1 s1 x1 r1 => ⟨z, r1.str, q _ L1 H1 s1 x1 (walks_str z)⟩⟩
  | tup xs =>
    have e2 : Out.ok (⟨xs, []⟩ : Walk) S1 = .ok w S' := e2
    cases e2
    refine (pi_tup ha).run pins s σ H R I ⟨L, S, ρ, _, _, sm, er, e1, fun v L1 H1 s1 x1 r1 => ?_⟩
    obtain ⟨p, vs, rfl, ta, rl⟩ := r1.tup
    exact ⟨p, rfl, ⟨vs, ta.sq⟩, q _ L1 H1 s1 x1 (walks_tup ta rl)⟩
  | loc n =>
    have e2 : (match (match S1[n]? with | some (.lst xs) => some (true, xs) | _ => none) with
      | some (_, xs) => Out.ok (⟨xs, [(n, xs)]⟩ : Walk) S1
      | none => .bad) = .ok w S' := e2
    cases hn : S1[n]? with
    | none => rw [hn] at e2; cases e2
    | some ob =>
      rw [hn] at e2
      cases ob with
      | dic _ => cases e2
      | lst xs =>
        cases e2
        refine (pi_list ha).run pins s σ H R I ⟨L, S, ρ, _, _, sm, er, e1, fun v L1 H1 s1 x1 r1 => ?_⟩
        obtain ⟨p, rfl, hp⟩ := r1.loc
        obtain ⟨vs, g1, rl⟩ := s1.lst_at hn hp
        exact ⟨p, rfl, ⟨vs, SqL.of g1⟩, q _ L1 H1 s1 x1 (walks_list hp)⟩
  | _ => cases e2
theorem s_rng1 (hg : Gl X "range") (hm : X.mg "range" = none) (ha : PE X a (tE X.K C xa)) (hs : starEach [a] X.env = [(false, eval a X.env)]) : PI X tg (.Call (.Name "range" p) [a] [] pos) (tI X.K C bb (.rng1 xa)) := by
  refine ⟨fun pins s σ H R I h => ?_⟩
  refine (pi_range1 hg hm (pa_cons ha pa_nil hs) hs).run pins s σ H R I ?_
  obtain ⟨L, S, ρ, w, S', sm, er, e, q⟩ := h
  have e : (evE C xa ρ >>= rng1M) S = .ok w S' := e
  obtain ⟨x, S1, e1, e2⟩ := ok_bind e
  refine ⟨L, S, ρ, x, S1, sm, er, e1, fun v L1 H1 s1 x1 r1 => ?_⟩
  cases x with
  | int i =>
    have e2 : (if rngOk i then (pure ⟨rng 0 i, []⟩ : M Walk) else bad) S1 = .ok w S' := e2
    by_cases hz : rngOk i = true
    · rw [if_pos hz] at e2
      obtain ⟨e3, e4⟩ := ok_pure e2
      subst e3 e4
      unfold rngOk at hz
      rw [Bool.and_eq_true] at hz
      have hw := walks_rng (bb := bb) (K := X.K) (scr := C.scr) (L0 := L1) (H0 := H1) 0 i
      rw [Int.sub_zero] at hw
      exact ⟨i, by rw [r1.int], of_decide_eq_true hz.1, of_decide_eq_true hz.2, q _ L1 H1 s1 x1 hw⟩
    · rw [if_neg hz] at e2; exact (ok_bad e2).elim
  | _ => exact (ok_bad (S := S1) e2).elim
theorem s_rng2 (hg : Gl X "range") (hm : X.mg "range" = none) (ha : PE X a (tE X.K C xa)) (hb : PE X b (tE X.K C xb)) (hs : starEach [a, b] X.env = [(false, eval a X.env), (false, eval b X.env)]) (hs2 : starEach [b] X.env = [(false, eval b X.env)]) :
    PI X tg (.Call (.Name "range" p) [a, b] [] pos) (tI X.K C bb (.rng2 xa xb)) := by
  refine ⟨fun pins s σ H R I h => ?_⟩
  refine (pi_range2 hg hm (pa_cons ha (pa_cons hb pa_nil hs2) (by rw [hs, hs2])) hs hs2).run pins s σ H R I ?_
  obtain ⟨L, S, ρ, w, S', sm, er, e, q⟩ := h
  have e : (evE C xa ρ >>= fun x => evE C xb ρ >>= fun y => rng2M x y) S = .ok w S' := e
  obtain ⟨x, S1, e1, e2⟩ := ok_bind e
  refine ⟨L, S, ρ, x, S1, sm, er, e1, fun v L1 H1 s1 x1 r1 => ?_⟩
  obtain ⟨y, S2, e3, e4⟩ := ok_bind e2
  refine ⟨L1, S1, ρ, y, S2, s1, er.mono x1, e3, fun v2 L2 H2 s2 x2 r2 => ?_⟩
  cases x with
  | int i =>
    cases y with
    | int j =>
      have e4 : (if rngOk i && rngOk j then (pure ⟨rng i j, []⟩ : M Walk) else bad) S2 = .ok w S' := e4
      by_cases hz : (rngOk i && rngOk j) = true
      · rw [if_pos hz] at e4
        obtain ⟨e5, e6⟩ := ok_pure e4
        subst e5 e6
        rw [Bool.and_eq_true] at hz
        unfold rngOk at hz
        rw [Bool.and_eq_true, Bool.and_eq_true] at hz
        exact ⟨i, j, by rw [r1.int, r2.int], ⟨of_decide_eq_true hz.1.1, of_decide_eq_true hz.1.2, of_decide_eq_true hz.2.1, of_decide_eq_true hz.2.2⟩, q _ L2 H2 s2 (x1.trans x2) (walks_rng i j)⟩
      · rw [if_neg hz] at e4; exact (ok_bad e4).elim
    | _ => exact (ok_bad (S := S2) e4).elim
  | _ => cases y <;> exact (ok_bad (S := S2) e4).elim
theorem seq_shape {S : Sto} {x : Val} {k : Bool} {xs : List Val} (h : seqOf S x = some (k, xs)) : (k = false ∧ x = .tup xs) ∨ (k = true ∧ ∃ n, x = .loc n ∧ S[n]? = some (.lst xs)) := by
  cases x with
  | tup ys => cases h; exact .inl ⟨rfl, rfl⟩
  | loc n =>
    have h : (match S[n]? with | some (.lst xs) => some (true, xs) | _ => none) = some (k, xs) := h
    split at h
    · rename_i ys h1; cases h; exact .inr ⟨rfl, n, rfl, h1⟩
    · cases h
  | _ => cases h
theorem s_zip {elts : List Expr} {kk : Nat} {tpos : Pos} (hg : Gl X "zip") (hm : X.mg "zip" = none) (ha : PE X a (tE X.K C xa)) (hb : PE X b (tE X.K C xb)) (hs : starEach [a, b] X.env = (false, eval a X.env) :: starEach [b] X.env) (hs2 : starEach [b] X.env = (false, eval b X.env) :: starEach [] X.env) (hpl : (backTo pos (starEach [b] X.env)).any (·.1) = false) :
    PI X (.Tuple elts kk tpos) (.Call (.Name "zip" p) [a, b] [] pos) (tI X.K C true (.zip xa xb)) := by
  refine ⟨fun pins s σ H R I h => ?_⟩
  refine (RZ.pi_zipA hg hm (pa_cons ha (pa_cons hb pa_nil hs2) hs) hs hpl).run pins s σ H R I ?_
  obtain ⟨L, S, ρ, w, S', sm, er, e, q⟩ := h
  have e : (evE C xa ρ >>= fun x => evE C xb ρ >>= fun y => zipM x y) S = .ok w S' := e
  obtain ⟨x, S1, e1, e2⟩ := ok_bind e
  refine ⟨L, S, ρ, x, S1, sm, er, e1, fun v L1 H1 s1 x1 r1 => ?_⟩
  obtain ⟨y, S2, e3, e4⟩ := ok_bind e2
  refine ⟨L1, S1, ρ, y, S2, s1, er.mono x1, e3, fun v2 L2 H2 s2 x2 r2 => ?_⟩
  have r1 := r1.mono x2
  unfold zipM at e4
  cases h1 : seqOf S2 x with
  | none => rw [h1] at e4; cases e4
  | some z1 =>
    cases h2 : seqOf S2 y with
    | none => rw [h1, h2] at e4; cases e4
    | some z2 =>
      obtain ⟨k1, xs⟩ := z1
      obtain ⟨k2, ys⟩ := z2
      rw [h1, h2] at e4
      dsimp only at e4
      by_cases hk : k1 = k2
      · rw [if_pos hk] at e4
        cases e4
        subst hk
        rcases seq_shape h1 with ⟨hk1, rfl⟩ | ⟨hk1, n1, rfl, g1⟩
        · rcases seq_shape h2 with ⟨hk2, rfl⟩ | ⟨hk2, n2, rfl, g2⟩
          · obtain ⟨pa, vs, rfl, ta, ra⟩ := r1.tup
            obtain ⟨pb, ws, rfl, tb, rb⟩ := r2.tup
            refine ⟨pa, pb, vs, ws, rfl, .inr ⟨ta.sq, tb.sq, q _ L2 H2 s2 (x1.trans x2) (walks_zip2 fun L3 S3 H3 x3 s3 _ => ?_)⟩⟩
            have ta := ta.mono x3
            have tb := tb.mono x3
            refine ⟨vs, ws, ra.mono x3, rb.mono x3, fun i u u' hu hu' => ⟨⟨vs, ws, u, u', ta.sq, tb.sq, hu, hu'⟩, fun z H' hz => ?_⟩, fun i hi => ⟨vs, ws, ta.sq, tb.sq, hi⟩⟩
            obtain ⟨T, c1, c2, rfl, hT, rfl, y1, y2⟩ := hz
            have y1 := y1 vs ta.sq
            have y2 := y2 ws tb.sq
            rw [hu] at y1; cases y1
            rw [hu'] at y2; cases y2
            exact ⟨T, rfl, hT, rfl⟩
          · rw [hk1] at hk2; cases hk2
        · rcases seq_shape h2 with ⟨hk2, rfl⟩ | ⟨hk2, n2, rfl, g2⟩
          · rw [hk1] at hk2; cases hk2
          · obtain ⟨pa, rfl, ha⟩ := r1.loc
            obtain ⟨pb, rfl, hb⟩ := r2.loc
            obtain ⟨vs, ga, ra⟩ := s2.lst_at g1 ha
            obtain ⟨ws, gb, rb⟩ := s2.lst_at g2 hb
            refine ⟨pa, pb, vs, ws, rfl, .inl ⟨SqL.of ga, SqL.of gb, q _ L2 H2 s2 (x1.trans x2) (walks_zip2 fun L3 S3 H3 x3 s3 st => ?_)⟩⟩
            have k1 := (still_ok st).2 (n1, xs) (by simp [held1])
            have k2 := (still_ok st).2 (n2, ys) (by simp [held1])
            obtain ⟨vs, ga, ra⟩ := s3.lst_at k1 (x3.at ha)
            obtain ⟨ws, gb, rb⟩ := s3.lst_at k2 (x3.at hb)
            refine ⟨vs, ws, ra, rb, fun i u u' hu hu' => ⟨⟨vs, ws, u, u', SqL.of ga, SqL.of gb, hu, hu'⟩, fun z H' hz => ?_⟩, fun i hi => ⟨vs, ws, SqL.of ga, SqL.of gb, hi⟩⟩
            obtain ⟨T, c1, c2, rfl, hT, rfl, y1, y2⟩ := hz
            have y1 := y1 vs (SqL.of ga)
            have y2 := y2 ws (SqL.of gb)
            rw [hu] at y1; cases y1
            rw [hu'] at y2; cases y2
            exact ⟨T, rfl, hT, rfl⟩
      · rw [if_neg hk] at e4; cases e4
theorem s_enum {elts : List Expr} {kk : Nat} {tpos : Pos} (hg : Gl X "enumerate") (hm : X.mg "enumerate" = none) (ha : PE X a (tE X.K C xa)) (hs : starEach [a] X.env = [(false, eval a X.env)]) :
    PI X (.Tuple elts kk tpos) (.Call (.Name "enumerate" p) [a] [] pos) (tI X.K C true (.enum xa)) := by
  refine ⟨fun pins s σ H R I h => ?_⟩
  refine (pi_enumF hg hm (pa_cons ha pa_nil hs) hs).run pins s σ H R I ?_
  obtain ⟨L, S, ρ, w, S', sm, er, e, q⟩ := h
  have e : (evE C xa ρ >>= enumM) S = .ok w S' := e
  obtain ⟨x, S1, e1, e2⟩ := ok_bind e
  refine ⟨L, S, ρ, x, S1, sm, er, e1, fun v L1 H1 s1 x1 r1 => ?_⟩
  unfold enumM at e2
  split at e2
  · rename_i kd xs h1
    cases e2
    rcases seq_shape h1 with ⟨hk, rfl⟩ | ⟨_, n, rfl, g1⟩
    · obtain ⟨p, vs, rfl, ta, ra⟩ := r1.tup
      refine ⟨p, vs, rfl, .inr ⟨ta.sq, q _ L1 H1 s1 x1 (walks_enum2 fun L3 S3 H3 x3 s3 _ => ?_)⟩⟩
      have ta := ta.mono x3
      refine ⟨vs, ra.mono x3, fun i u hu => ⟨⟨vs, u, ta.sq, hu⟩, fun z H' hz => ?_⟩, fun i hi => ⟨vs, ta.sq, hi⟩⟩
      obtain ⟨T, c1, rfl, hT, rfl, y1⟩ := hz
      have y1 := y1 vs ta.sq
      rw [hu] at y1; cases y1
      exact ⟨T, rfl, hT, rfl⟩
    · obtain ⟨p, rfl, hp⟩ := r1.loc
      obtain ⟨vs, ga, ra⟩ := s1.lst_at g1 hp
      refine ⟨p, vs, rfl, .inl ⟨SqL.of ga, q _ L1 H1 s1 x1 (walks_enum2 fun L3 S3 H3 x3 s3 st => ?_)⟩⟩
      have k1 := (still_ok st).2 (n, xs) (by simp [held1])
      obtain ⟨vs, ga, ra⟩ := s3.lst_at k1 (x3.at hp)
      refine ⟨vs, ra, fun i u hu => ⟨⟨vs, u, SqL.of ga, hu⟩, fun z H' hz => ?_⟩, fun i hi => ⟨vs, SqL.of ga, hi⟩⟩
      obtain ⟨T, c1, rfl, hT, rfl, y1⟩ := hz
      have y1 := y1 vs (SqL.of ga)
      rw [hu] at y1; cases y1
      exact ⟨T, rfl, hT, rfl⟩
  · cases e2
end

/-! ### targets -/
mutual
def tgSlots : Tg → List Nat
  | .nam i => [i]
  | .tup ts => tgsSlots ts
def tgsSlots : Tgs → List Nat
  | .nil => []
  | .cons t ts => tgSlots t ++ tgsSlots ts
end
def Tgs.len : Tgs → Nat
  | .nil => 0
  | .cons _ ts => ts.len + 1
/-- the target unpacks -/
def tgTup : Tg → Bool
  | .nam _ => false
  | .tup _ => true
def tG (K : PySem.W.Frag) (scr : List Int) (t : Tg) : TG := fun v σ H Q => ∃ L S ρ d ρ', Sim K scr L S H ∧ EnvR K scr L H ρ σ ∧ RepB K scr L H (tgTup t) d v ∧ asg t d ρ = some ρ' ∧
  ∀ σ', EnvR K scr L H ρ' σ' → (∀ vs, (∀ i ∈ tgSlots t, i ∈ vs) → L2.wipe σ' vs = L2.wipe σ vs) → Q σ' H
def tGs (K : PySem.W.Frag) (scr : List Int) (ts : Tgs) : TGs := fun vs σ H Q => ∃ L S ρ ds ρ', Sim K scr L S H ∧ EnvR K scr L H ρ σ ∧ RepL K scr L H ds vs ∧ asgs ts ds ρ = some ρ' ∧
  ∀ σ', EnvR K scr L H ρ' σ' → (∀ ws, (∀ i ∈ tgsSlots ts, i ∈ ws) → L2.wipe σ' ws = L2.wipe σ ws) → Q σ' H
theorem RepB.rep {K : PySem.W.Frag} {scr : List Int} {L : List Addr} {H : Hp} {d : Val} {v : V} (h : RepB K scr L H false d v) : Rep K scr L H d v := by
  rcases h with h | ⟨z, _⟩
  · exact h
  · cases z
theorem PG.imp {X : Cx} {e : Expr} {t t' : TG} (h : PG X e t) (f : ∀ v σ H Q, t' v σ H Q → t v σ H Q) : PG X e t' := ⟨fun pins s σ H v u Q I r q => h.run pins s σ H v u Q I r (f v σ H Q q)⟩
theorem PGs.imp {X : Cx} {e : List Expr} {t t' : TGs} (h : PGs X e t) (f : ∀ v σ H Q, t' v σ H Q → t v σ H Q) : PGs X e t' := ⟨fun pins s σ H v u Q I r q => h.run pins s σ H v u Q I r (f v σ H Q q)⟩
theorem wipe_set {σ : L2.St} {i : Nat} {o : Option V} : ∀ {vs : List Nat}, i ∈ vs → L2.wipe (σ.set i o) vs = L2.wipe σ vs
  | [], h => by cases h
  | v :: vs, h => by
    show (L2.wipe (σ.set i o) vs).set v none = (L2.wipe σ vs).set v none
    by_cases hv : i ∈ vs
    · rw [wipe_set hv]
    · have e : i = v := by
        rcases List.mem_cons.mp h with e | e
        · exact e
        · exact absurd e hv
      subst e
      have com : ∀ ws : List Nat, i ∉ ws → L2.wipe (σ.set i o) ws = (L2.wipe σ ws).set i o := by
        intro ws
        induction ws with
        | nil => intro _; rfl
        | cons w ws ih =>
          intro hn
          simp only [List.mem_cons, not_or] at hn
          show (L2.wipe (σ.set i o) ws).set w none = ((L2.wipe σ ws).set w none).set i o
          rw [ih hn.2, List.set_comm _ _ hn.1]
      rw [com vs hv, List.set_set]
theorem wipe_wipe (σ : L2.St) (vs : List Nat) : L2.wipe (L2.wipe σ vs) vs = L2.wipe σ vs := by
  have gen : ∀ ws : List Nat, (∀ i ∈ ws, i ∈ vs) → L2.wipe (L2.wipe σ ws) vs = L2.wipe σ vs := by
    intro ws
    induction ws with
    | nil => intro _; rfl
    | cons w ws ih =>
      intro h
      show L2.wipe ((L2.wipe σ ws).set w none) vs = _
      rw [wipe_set (h w List.mem_cons_self)]
      exact ih fun i hi => h i (List.mem_cons_of_mem _ hi)
  exact gen vs fun _ h => h
section
variable {X : Cx} {C : Ev.Ctx} {pos : Pos} {scr : List Int}
theorem s_tgName {i : Nat} {x : Str} (hN : X.N.Nodup) (hi : X.N[i]? = some x) (hx : Loc X.env.scope x) (hf : X.fn x = true ∨ X.env.scope.names.lookup x = some .local) : PG X (.Name x pos) (tG X.K scr (.nam i)) :=
  PG.imp (pg_name hN hi hx hf) fun v σ H Q ⟨L, S, ρ, d, ρ', sm, er, rd, e, q⟩ => by
    have e : (if i < ρ.length then some (ρ.set i (some d)) else none) = some ρ' := e
    by_cases hz : i < ρ.length
    · rw [if_pos hz] at e
      cases e
      have rd : Rep X.K scr L H d v := by
        rcases rd with rd | ⟨z, _⟩
        · exact rd
        · cases z
      exact q _ (er.set i rd) fun vs hv => wipe_set (hv i (by simp [tgSlots]))
    · rw [if_neg hz] at e; cases e
theorem s_tgsNil : PGs X [] (tGs X.K scr .nil) :=
  PGs.imp pgs_nil fun vs σ H Q ⟨L, S, ρ, ds, ρ', sm, er, rd, e, q⟩ => by
    cases ds with
    | nil =>
      unfold RepL at rd
      subst rd
      cases e
      exact ⟨rfl, q σ er fun _ _ => rfl⟩
    | cons d ds => cases e
theorem s_tgsCons {a : Expr} {es : List Expr} {t : Tg} {ts : Tgs} (h1 : PG X a (tG X.K scr t)) (h2 : PGs X es (tGs X.K scr ts)) (hs : (assignEach (a :: es) X.env).map (·.2) = assign a X.env :: (assignEach es X.env).map (·.2)) : PGs X (a :: es) (tGs X.K scr (.cons t ts)) :=
  PGs.imp (pgs_cons h1 h2 hs) fun vs σ H Q ⟨L, S, ρ, ds, ρ', sm, er, rd, e, q⟩ => by
    cases ds with
    | nil => cases e
    | cons d ds =>
      unfold RepL at rd
      obtain ⟨v, r, rfl, r1, r2⟩ := rd
      have e : (match asg t d ρ with | some ρ1 => asgs ts ds ρ1 | none => none) = some ρ' := e
      cases e1 : asg t d ρ with
      | none => rw [e1] at e; cases e
      | some ρ1 =>
        rw [e1] at e
        refine ⟨v, r, rfl, L, S, ρ, d, ρ1, sm, er, .inl r1, e1, fun σ1 er1 w1 => ⟨L, S, ρ1, ds, ρ', sm, er1, r2, e, fun σ2 er2 w2 => q σ2 er2 fun ws hw => ?_⟩⟩
        rw [w2 ws fun i hi => hw i (by simp [tgsSlots, hi]), w1 ws fun i hi => hw i (by simp [tgsSlots, hi])]
theorem s_tgTup {es : List Expr} {k : Nat} {ts : Tgs} (hc : X.calm = true) (h : PGs X es (tGs X.K scr ts)) (hn : (assignEach es X.env).length = ts.len) (hst : (assignEach es X.env).findIdx? (·.1) = none)
    (hl : ∀ ds ρ ρ', asgs ts ds ρ = some ρ' → ds.length = ts.len) : PG X (.Tuple es k pos) (tG X.K scr (.tup ts)) :=
  PG.imp (pg_tup hc h hn hst) fun v σ H Q ⟨L, S, ρ, d, ρ', sm, er, rd, e, q⟩ => by
    cases d with
    | tup xs =>
      obtain ⟨p, vs, rfl, ta, rl⟩ : ∃ p vs, v = .ref p ∧ SqT X.K H p vs ∧ RepL X.K scr L H xs vs := by
        rcases rd with rd | ⟨_, xs', p, vs, e1, e2, e3, e4⟩
        · obtain ⟨p, vs, e1, ta, rl⟩ := rd.tup
          exact ⟨p, vs, e1, ta.sq, rl⟩
        · cases e1; exact ⟨p, vs, e2, e3, e4⟩
      have e : asgs ts xs ρ = some ρ' := e
      exact ⟨p, vs, rfl, ta, by rw [rl.length]; exact hl _ _ _ e, L, S, ρ, xs, ρ', sm, er, rl, e, fun σ' er' w' => q σ' er' w'⟩
    | _ => cases e
theorem asgs_len : ∀ {ts : Tgs} {ds : List Val} {ρ ρ' : Ev.Env}, asgs ts ds ρ = some ρ' → ds.length = ts.len
  | .nil, [], _, _, _ => rfl
  | .nil, _ :: _, _, _, h => by cases h
  | .cons _ _, [], _, _, h => by cases h
  | .cons t ts, d :: ds, ρ, ρ', h => by
    have h : (match asg t d ρ with | some ρ1 => asgs ts ds ρ1 | none => none) = some ρ' := h
    cases e1 : asg t d ρ with
    | none => rw [e1] at h; cases h
    | some ρ1 =>
      rw [e1] at h
      simp [asgs_len h, Tgs.len]
end
end Ev

end

section
set_option maxHeartbeats 1000000
/-! Ev9: comprehensions, statements. -/
namespace Ev
open PySem L2 PyProof.Rows

section
variable {K : PySem.W.Frag} {scr : List Int} {L L' : List Addr} {H H' : Hp} {S : Sto}
/-- a list that is no place of the store grows -/
theorem wk_upd {D : Addr} {xs : List V} {o : HO} (h : H D = some (.lst xs)) : Wk L H L (upd H D o) := ⟨⟨[], by simp⟩, fun a u q k n => ⟨by
  rw [upd_ne (fun z => by rw [z, h] at q; cases q; cases k)]; exact q, n⟩⟩
theorem Sim.updD (sm : Sim K scr L S H) {D : Addr} {xs : List V} {o : HO} (h : H D = some (.lst xs)) (hn : D ∉ L) : Sim K scr L S (upd H D o) := by
  refine ⟨sm.len, sm.nd, fun n a ob h1 h2 => ?_⟩
  have hne : a ≠ D := fun z => hn (by rw [← z]; exact List.mem_of_getElem? h1)
  have := sm.obj n a ob h1 h2
  cases ob with
  | lst ys => obtain ⟨vs, g1, g2⟩ := this; exact ⟨vs, by rw [upd_ne hne]; exact g1, g2.wk (wk_upd h)⟩
  | dic kvs => obtain ⟨ws, g1, g2, g3⟩ := this; exact ⟨ws, by rw [upd_ne hne]; exact g1, g2, g3.wk (wk_upd h)⟩
theorem wk_adopt {D : Addr} {vs : List V} (h : H D = some (.lst vs)) : Wk L H (L ++ [D]) H := ⟨⟨[D], rfl⟩, fun a u q k n => ⟨q, by
  simp only [List.mem_append, List.mem_singleton, not_or]
  exact ⟨n, fun z => by rw [z, h] at q; cases q; cases k⟩⟩⟩
/-- such a list becomes a place of the store -/
theorem Sim.adopt (sm : Sim K scr L S H) {D : Addr} {vs : List V} {xs : List Val} (h : H D = some (.lst vs)) (hn : D ∉ L) (r : RepL K scr L H xs vs) : Sim K scr (L ++ [D]) (S ++ [.lst xs]) H := by
  have wk : Wk L H (L ++ [D]) H := wk_adopt h
  refine ⟨by simp [sm.len], ?_, fun n a o' h1 h2 => ?_⟩
  · rw [List.nodup_append]
    refine ⟨sm.nd, by simp, fun a ha b hb => ?_⟩
    simp only [List.mem_singleton] at hb
    subst hb
    intro z; subst z; exact hn ha
  · by_cases hn' : n < L.length
    · rw [List.getElem?_append_left hn'] at h1
      rw [List.getElem?_append_left (by rw [← sm.len]; exact hn')] at h2
      have := sm.obj n a o' h1 h2
      cases o' with
      | lst ys => obtain ⟨vs, g1, g2⟩ := this; exact ⟨vs, g1, g2.wk wk⟩
      | dic kvs => obtain ⟨ws, g1, g2, g3⟩ := this; exact ⟨ws, g1, g2, g3.wk wk⟩
    · have hn2 : n = L.length := by
        have := (List.getElem?_eq_some_iff.mp h1).1
        simp at this; omega
      subst hn2
      rw [List.getElem?_append_right (Nat.le_refl _)] at h1
      rw [List.getElem?_append_right (by rw [sm.len]; exact Nat.le_refl _)] at h2
      simp at h1
      rw [sm.len] at h2
      simp at h2
      subst h1 h2
      exact ⟨vs, h, r.wk wk⟩
end

theorem PTs.imp {X : Cx} {e : List Expr} {t t' : TT} (h : PTs X e t) (f : ∀ σ H Q, t' σ H Q → t σ H Q) : PTs X e t' := ⟨fun pins s σ H Q I q => h.run pins s σ H Q I (f σ H Q q)⟩
theorem s_ptsNil {X : Cx} {K : PySem.W.Frag} {C : Ev.Ctx} : PTs X [] (tT K C (.bl true)) :=
  PTs.imp pts_nil fun σ H Q ⟨L, S, ρ, b, S', sm, er, e, q⟩ => by
    have e : Out.ok true S = .ok b S' := e
    cases e
    exact q L H sm (Ext.refl L H)

theorem still_bind {β : Type} {h : List (Nat × List Val)} {f : Unit → M β} {b : β} {S S' : Sto} (e : (still h >>= f) S = .ok b S') : still h S = .ok () S ∧ f () S = .ok b S' := by
  obtain ⟨u, Sa, k1, k2⟩ := ok_bind e
  cases u
  obtain ⟨z, _⟩ := still_ok k1
  rw [z] at k1 k2
  exact ⟨k1, k2⟩
theorem opt_bind {α β : Type} {o : Option α} {f : α → M β} {b : β} {S S' : Sto} (e : (opt o >>= f) S = .ok b S') : ∃ a, o = some a ∧ f a S = .ok b S' := by
  obtain ⟨a, Sa, k1, k2⟩ := ok_bind e
  cases o with
  | none => exact (ok_bad (S := S) k1).elim
  | some c => obtain ⟨e1, e2⟩ := ok_pure (S := S) k1; subst e1 e2; exact ⟨c, rfl, k2⟩
/-- one turn of a comprehension -/
def comTurn (C : Ev.Ctx) (vs : List Nat) (t : Tg) (xc xe : Ex) (ρ : Ev.Env) (x : Val) : M (Option Val) := do
  let ρ' ← opt (asg t x (wipe ρ vs))
  let b ← evT C xc ρ'
  if b then do
    let y ← evE C xe ρ'
    pure (some y)
  else pure none
theorem com_read {K : PySem.W.Frag} {C : Ev.Ctx} {it : Ev.It} {t : Tg} {xc xe : Ex} {vs : List Nat} {σ : L2.St} {H : Hp} {Q : VK} {L : List Addr} {S S1 S2 : Sto} {ρ : Ev.Env} {w : Walk} {ys : List Val}
    (sm : Sim K C.scr L S H) (er : EnvR K C.scr L H ρ σ) (e1 : evI C it ρ S = .ok w S1) (hz : w.xs.length ≤ sizeLine) (e2 : comLoop w (comTurn C vs t xc xe ρ) w.xs S1 = .ok ys S2) (hsl : ∀ i ∈ tgSlots t, i ∈ vs)
    (q : ∀ D ws L' H', Sim K C.scr L' S2 H' → Ext L H L' H' → (∀ a o, H a = some o → a ∉ L → a ≠ D) → H' D = some (.lst ws) → D ∉ L' → RepL K C.scr L' H' ys ws → Q (.ref D) H') :
    tLc (tI K C (tgTup t) it) (tG K C.scr t) (tT K C xc) (tE K C xe) vs σ H Q := by
  refine ⟨L, S, ρ, w, S1, sm, er, e1, fun J L1 H1 s1 x1 wk D hD => ?_⟩
  refine ⟨fun i m H' => m = w.xs.length - i ∧ i ≤ w.xs.length ∧ ∃ L' S' acc vacc rest, Ext L1 H1 L' H' ∧ Sim K C.scr L' S' H' ∧ H' D = some (.lst vacc) ∧ D ∉ L' ∧ RepL K C.scr L' H' acc vacc ∧ acc.length ≤ i ∧
    comLoop w (comTurn C vs t xc xe ρ) (w.xs.drop i) S' = .ok rest S2 ∧ acc ++ rest = ys, ⟨w.xs.length, by simp, Nat.zero_le _, ?_⟩, ?_⟩
  · obtain ⟨x2, s2⟩ := s1.tmp (o := .lst []) hD
    exact ⟨L1, S1, [], [], ys, x2, s2, upd_same, s1.new hD, RepL.nil, Nat.le_refl _, by simpa using e2, rfl⟩
  · rintro i m H' ⟨rfl, hi, L', S', acc, vacc, rest, x', s', gD, nD, ra, hacc, el, ey⟩
    by_cases hlt : i < w.xs.length
    · have hd : w.xs.drop i = w.xs[i] :: w.xs.drop (i + 1) := List.drop_eq_getElem_cons hlt
      rw [hd] at el
      have el : (still w.held >>= fun _ => comTurn C vs t xc xe ρ w.xs[i] >>= fun r => comLoop w (comTurn C vs t xc xe ρ) (w.xs.drop (i + 1)) >>= fun rest => match r with | some y => pure (y :: rest) | none => pure rest) S' = .ok rest S2 := el
      obtain ⟨k1, el⟩ := still_bind el
      obtain ⟨r, Sb, k2, el2⟩ := ok_bind el
      obtain ⟨rest', Sc, k3, el3⟩ := ok_bind el2
      clear el el2
      obtain ⟨w1, _⟩ := wk L' _ H' x' s' k1 i
      obtain ⟨go, yl⟩ := w1 w.xs[i] (by simp [hlt])
      refine .inr ⟨go, fun H5 => i + 1 ≤ w.xs.length ∧ ∃ L' S' acc vacc rest, Ext L1 H1 L' H5 ∧ Sim K C.scr L' S' H5 ∧ H5 D = some (.lst vacc) ∧ D ∉ L' ∧ RepL K C.scr L' H5 acc vacc ∧ acc.length ≤ i + 1 ∧
        comLoop w (comTurn C vs t xc xe ρ) (w.xs.drop (i + 1)) S' = .ok rest S2 ∧ acc ++ rest = ys, fun H5 h5 => ⟨w.xs.length - (i + 1), by omega, rfl, h5⟩, fun x H2 hy => ?_⟩
      obtain ⟨x2, s2, r2⟩ := yl x H2 hy
      have k2 : (opt (asg t w.xs[i] (wipe ρ vs)) >>= fun ρ' => evT C xc ρ' >>= fun b => if b then (evE C xe ρ' >>= fun y => pure (some y)) else pure none) _ = .ok r Sb := k2
      obtain ⟨ρ', k6, k5⟩ := opt_bind k2
      obtain ⟨b, Se, k7, k8⟩ := ok_bind k5
      have erw : EnvR K C.scr L' H2 (wipe ρ vs) (L2.wipe σ vs) := ((er.mono (x1.trans x')).mono x2).wipe vs
      refine ⟨L', _, wipe ρ vs, _, ρ', s2, erw, r2, k6, fun σ2 er2 wp => ⟨by rw [wp vs hsl, wipe_wipe], ?_⟩⟩
      obtain ⟨gD2, nD2⟩ := x2.keep D _ gD nD
      refine ⟨L', _, ρ', b, Se, s2, er2, k7, fun L3 H3 s3 x3 => ?_⟩
      obtain ⟨gD3, nD3⟩ := x3.keep D _ gD2 nD2
      have xx : Ext L1 H1 L3 H3 := x'.trans (x2.trans x3)
      have hla := ra.length
      cases b with
      | true =>
        rw [if_pos rfl] at k8
        rw [if_pos rfl]
        obtain ⟨y, Sf, k9, k10⟩ := ok_bind k8
        obtain ⟨z1, z2⟩ := ok_pure k10
        subst z1 z2
        refine ⟨L3, Se, ρ', y, _, s3, er2.mono x3, k9, fun v L4 H4 s4 x4 r4 => ?_⟩
        obtain ⟨gD4, nD4⟩ := x4.keep D _ gD3 nD3
        refine ⟨vacc, gD4, by omega, hlt, L4, _, acc ++ [y], vacc ++ [v], rest', ?_, s4.updD gD4 nD4, upd_same, nD4, ?_, by simp; omega, ?_, ?_⟩
        · have x5 := xx.trans x4
          refine ⟨x5.more, fun a o h n => ?_⟩
          obtain ⟨g1, g2⟩ := x5.keep a o h n
          exact ⟨by rw [upd_ne (fun z => by rw [z, hD] at h; cases h)]; exact g1, g2⟩
        · exact ((((ra.mono x2).mono x3).mono x4).append (RepL.cons r4 RepL.nil)).wk (wk_upd gD4)
        · obtain ⟨z3, z4⟩ := ok_pure el3
          subst z4
          exact k3
        · obtain ⟨z3, z4⟩ := ok_pure el3
          rw [← ey, ← z3]
          simp
      | false =>
        rw [if_neg Bool.false_ne_true] at k8
        rw [if_neg Bool.false_ne_true]
        obtain ⟨z1, z2⟩ := ok_pure k8
        subst z1 z2
        obtain ⟨z3, z4⟩ := ok_pure el3
        subst z3 z4
        exact ⟨hlt, L3, _, acc, vacc, rest', xx, s3, gD3, nD3, (ra.mono x2).mono x3, by omega, k3, ey⟩
    · have hin : i = w.xs.length := by omega
      subst hin
      have el : (still w.held >>= fun _ => (pure [] : M (List Val))) S' = .ok rest S2 := by
        have hd : w.xs.drop w.xs.length = [] := by simp
        rw [hd] at el
        exact el
      obtain ⟨k1, el⟩ := still_bind el
      obtain ⟨z1, z2⟩ := ok_pure el
      subst z1 z2
      obtain ⟨_, w2⟩ := wk L' _ H' x' s' k1 w.xs.length
      rw [List.append_nil] at ey
      subst ey
      exact .inl ⟨w2 (Nat.le_refl _), q D vacc L' H' s' (x1.trans x') (fun a o h n z => by
        have := (x1.keep a o h n).1
        rw [z, hD] at this; cases this) gD nD ra⟩
theorem guard_ok {b : Bool} {S S' : Sto} (h : guard' b S = .ok () S') : b = true ∧ S' = S := by
  unfold guard' at h
  cases b with
  | true => rw [if_pos rfl] at h; obtain ⟨_, e⟩ := ok_pure h; exact ⟨rfl, e.symm⟩
  | false => rw [if_neg Bool.false_ne_true] at h; exact (ok_bad h).elim
theorem com_val {K : PySem.W.Frag} {C : Ev.Ctx} {it : Ev.It} {t : Tg} {xc xe : Ex} {vs : List Nat} (hsl : ∀ i ∈ tgSlots t, i ∈ vs) (σ : L2.St) (H : Hp) (Q : VK) (h : tE K C (.com vs t it xc xe) σ H Q) :
    tLc (tI K C (tgTup t) it) (tG K C.scr t) (tT K C xc) (tE K C xe) vs σ H Q := by
  obtain ⟨L, S, ρ, d, S', sm, er, e, q⟩ := h
  have e : (evI C it ρ >>= fun w => guard' (decide (w.xs.length ≤ sizeLine)) >>= fun _ => comLoop w (comTurn C vs t xc xe ρ) w.xs >>= fun ys => alloc (.lst ys)) S = .ok d S' := e
  obtain ⟨w, S1, e1, ea⟩ := ok_bind e
  obtain ⟨u, S2, e2, eb⟩ := ok_bind ea
  cases u
  obtain ⟨h2, z2⟩ := guard_ok e2
  subst z2
  obtain ⟨ys, S3, e3, ec⟩ := ok_bind eb
  have ec : Out.ok (Val.loc S3.length) (S3 ++ [.lst ys]) = .ok d S' := ec
  cases ec
  refine com_read sm er e1 (of_decide_eq_true h2) e3 hsl fun D ws L' H' s' x' nf g n r => ?_
  refine q (.ref D) (L' ++ [D]) H' (s'.adopt g n r) ?_ (rep_loc (by rw [← s'.len]; simp))
  obtain ⟨T, hT⟩ := x'.more
  refine ⟨⟨T ++ [D], by rw [hT, List.append_assoc]⟩, fun a o ha hna => ?_⟩
  obtain ⟨g1, g2⟩ := x'.keep a o ha hna
  refine ⟨g1, ?_⟩
  simp only [List.mem_append, List.mem_singleton, not_or]
  exact ⟨g2, nf a o ha hna⟩
theorem com_seq {K : PySem.W.Frag} {C : Ev.Ctx} {it : Ev.It} {t : Tg} {xc xe : Ex} {vs : List Nat} (hsl : ∀ i ∈ tgSlots t, i ∈ vs) (σ : L2.St) (H : Hp) (Q : VK) (h : tQ K C (.com vs t it xc xe) σ H Q) :
    tLc (tI K C (tgTup t) it) (tG K C.scr t) (tT K C xc) (tE K C xe) vs σ H Q := by
  obtain ⟨L, S, ρ, k, xs, S', sm, er, e, q⟩ := h
  have e : (evI C it ρ >>= fun w => guard' (decide (w.xs.length ≤ sizeLine)) >>= fun _ => comLoop w (comTurn C vs t xc xe ρ) w.xs >>= fun ys => pure (true, ys)) S = .ok (k, xs) S' := e
  obtain ⟨w, S1, e1, ea⟩ := ok_bind e
  obtain ⟨u, S2, e2, eb⟩ := ok_bind ea
  cases u
  obtain ⟨h2, z2⟩ := guard_ok e2
  subst z2
  obtain ⟨ys, S3, e3, ec⟩ := ok_bind eb
  obtain ⟨z1, z3⟩ := ok_pure ec
  subst z3
  have z4 : true = k := congrArg Prod.fst z1
  have z5 : ys = xs := congrArg Prod.snd z1
  subst z4 z5
  exact com_read sm er e1 (of_decide_eq_true h2) e3 hsl fun D ws L' H' s' x' nf g n r => q (.ref D) L' H' s' x' (.inl ⟨rfl, D, ws, rfl, g, r⟩)

/-! ### statements -/
def Fin (K : PySem.W.Frag) (scr : List Int) (L : List Addr) (H : Hp) (f : Flo) (S' : Sto) (D : Ends) : Prop := match f with
  | .nx ρ' => ∀ σ' L' H', Sim K scr L' S' H' → Ext L H L' H' → EnvR K scr L' H' ρ' σ' → D.nx σ' H'
  | .rt d => ∀ v L' H', Sim K scr L' S' H' → Ext L H L' H' → Rep K scr L' H' d v → D.rt v H'
  | .bk ρ' => ∀ σ' L' H', Sim K scr L' S' H' → Ext L H L' H' → EnvR K scr L' H' ρ' σ' → D.bk σ' H'
  | .ct ρ' => ∀ σ' L' H', Sim K scr L' S' H' → Ext L H L' H' → EnvR K scr L' H' ρ' σ' → D.ct σ' H'
theorem Fin.mono {K : PySem.W.Frag} {scr : List Int} {L L' : List Addr} {H H' : Hp} {f : Flo} {S : Sto} {D : Ends} (h : Fin K scr L H f S D) (e : Ext L H L' H') : Fin K scr L' H' f S D := by
  cases f with
  | nx ρ => exact fun σ' L2 H2 s x r => h σ' L2 H2 s (e.trans x) r
  | rt v => exact fun σ' L2 H2 s x r => h σ' L2 H2 s (e.trans x) r
  | bk ρ => exact fun σ' L2 H2 s x r => h σ' L2 H2 s (e.trans x) r
  | ct ρ => exact fun σ' L2 H2 s x r => h σ' L2 H2 s (e.trans x) r
def tS (K : PySem.W.Frag) (C : Ev.Ctx) (st : Sx) : TS := fun D σ H => ∃ L S ρ f S', Sim K C.scr L S H ∧ EnvR K C.scr L H ρ σ ∧ evS C st ρ S = .ok f S' ∧ Fin K C.scr L H f S' D
def tSs (K : PySem.W.Frag) (C : Ev.Ctx) (st : Sxs) : TS := fun D σ H => ∃ L S ρ f S', Sim K C.scr L S H ∧ EnvR K C.scr L H ρ σ ∧ evSs C st ρ S = .ok f S' ∧ Fin K C.scr L H f S' D
theorem PS.imp {X : Cx} {e : Stmt} {t t' : TS} (h : PS X e t) (f : ∀ D σ H, t' D σ H → t D σ H) : PS X e t' := ⟨fun pins s σ H D I q => h.run pins s σ H D I (f D σ H q)⟩
theorem PSs.imp {X : Cx} {e : List Stmt} {t t' : TS} (h : PSs X e t) (f : ∀ D σ H, t' D σ H → t D σ H) : PSs X e t' := ⟨fun pins s σ H D I q => h.run pins s σ H D I (f D σ H q)⟩
section
variable {X : Cx} {C : Ev.Ctx} {st : Stmt} {rest : List Stmt} {x : Sx} {xs : Sxs} {e c o i : Expr} {xe xc xo xi : Ex} {pos pos' : Pos}
theorem s_ssNil : PSs X [] (tSs X.K C .nil) :=
  PSs.imp pss_nil fun D σ H ⟨L, S, ρ, f, S', sm, er, e, q⟩ => by
    obtain ⟨e1, e2⟩ := ok_pure e
    subst e1 e2
    exact q σ L H sm (Ext.refl L H) er
theorem s_ssCons (h1 : PS X st (tS X.K C x)) (h2 : PSs X rest (tSs X.K C xs)) : PSs X (st :: rest) (tSs X.K C (.cons x xs)) :=
  PSs.imp (pss_cons h1 h2) fun D σ H ⟨L, S, ρ, f, S', sm, er, e, q⟩ => by
    have e : (evS C x ρ >>= fun f => match f with | .nx ρ2 => evSs C xs ρ2 | f => pure f) S = .ok f S' := e
    obtain ⟨f1, S1, e1, e2⟩ := ok_bind e
    refine ⟨L, S, ρ, f1, S1, sm, er, e1, ?_⟩
    cases f1 with
    | nx ρ2 => exact fun σ' L' H' s' x' er' => ⟨L', S1, ρ2, f, S', s', er', e2, q.mono x'⟩
    | rt v => obtain ⟨z1, z2⟩ := ok_pure e2; subst z1 z2; exact q
    | bk v => obtain ⟨z1, z2⟩ := ok_pure e2; subst z1 z2; exact q
    | ct v => obtain ⟨z1, z2⟩ := ok_pure e2; subst z1 z2; exact q
theorem s_pass : PS X (.Pass pos) (tS X.K C .pass) :=
  PS.imp ps_pass fun D σ H ⟨L, S, ρ, f, S', sm, er, e, q⟩ => by
    obtain ⟨e1, e2⟩ := ok_pure e
    subst e1 e2
    exact q σ L H sm (Ext.refl L H) er
theorem s_brk : PS X (.Break pos) (tS X.K C .brk) :=
  PS.imp ps_break fun D σ H ⟨L, S, ρ, f, S', sm, er, e, q⟩ => by
    obtain ⟨e1, e2⟩ := ok_pure e
    subst e1 e2
    exact q σ L H sm (Ext.refl L H) er
theorem s_cnt : PS X (.Continue pos) (tS X.K C .cnt) :=
  PS.imp ps_continue fun D σ H ⟨L, S, ρ, f, S', sm, er, e, q⟩ => by
    obtain ⟨e1, e2⟩ := ok_pure e
    subst e1 e2
    exact q σ L H sm (Ext.refl L H) er
theorem s_expr (he : PE X e (tE X.K C xe)) (hs : swapsWith e none pos.line X.env = pure false) : PS X (.Expr e pos) (tS X.K C (.expr xe)) :=
  PS.imp (ps_expr he hs) fun D σ H ⟨L, S, ρ, f, S', sm, er, e, q⟩ => by
    have e : (evE C xe ρ >>= fun _ => (pure (.nx ρ) : M Flo)) S = .ok f S' := e
    obtain ⟨v, S1, e1, e2⟩ := ok_bind e
    obtain ⟨z1, z2⟩ := ok_pure e2
    subst z1 z2
    exact ⟨L, S, ρ, v, S1, sm, er, e1, fun w L1 H1 s1 x1 r1 => q σ L1 H1 s1 x1 (er.mono x1)⟩
theorem s_ret (he : PE X e (tE X.K C xe)) : PS X (.Return (some e) pos) (tS X.K C (.ret xe)) :=
  PS.imp (ps_ret he) fun D σ H ⟨L, S, ρ, f, S', sm, er, e, q⟩ => by
    have e : (evE C xe ρ >>= fun v => (pure (.rt v) : M Flo)) S = .ok f S' := e
    obtain ⟨v, S1, e1, e2⟩ := ok_bind e
    obtain ⟨z1, z2⟩ := ok_pure e2
    subst z1 z2
    exact ⟨L, S, ρ, v, S1, sm, er, e1, fun w L1 H1 s1 x1 r1 => q w L1 H1 s1 x1 r1⟩
theorem s_if {a b : List Stmt} {xa xb : Sxs} (hc : PT X c (tT X.K C xc)) (ha : PSs X a (tSs X.K C xa)) (hb : PSs X b (tSs X.K C xb)) : PS X (.If c a b pos) (tS X.K C (.ifs xc xa xb)) :=
  PS.imp (ps_if hc ha hb) fun D σ H ⟨L, S, ρ, f, S', sm, er, e, q⟩ => by
    have e : (evT C xc ρ >>= fun t => if t then evSs C xa ρ else evSs C xb ρ) S = .ok f S' := e
    obtain ⟨t, S1, e1, e2⟩ := ok_bind e
    refine ⟨L, S, ρ, t, S1, sm, er, e1, fun L1 H1 s1 x1 => ?_⟩
    cases t with
    | true =>
      rw [if_pos rfl] at e2
      rw [if_pos rfl]
      exact ⟨L1, S1, ρ, f, S', s1, er.mono x1, e2, q.mono x1⟩
    | false =>
      rw [if_neg Bool.false_ne_true] at e2
      rw [if_neg Bool.false_ne_true]
      exact ⟨L1, S1, ρ, f, S', s1, er.mono x1, e2, q.mono x1⟩
theorem opt_some {α : Type} {o : Option α} {a : α} {S S' : Sto} (h : opt o S = .ok a S') : o = some a ∧ S' = S := by
  cases o with
  | none => exact (ok_bad (S := S) h).elim
  | some b => obtain ⟨e1, e2⟩ := ok_pure (S := S) h; exact ⟨by rw [e1], e2.symm⟩
/-- a target gets a value -/
theorem set_read {te : TE} {g : TG} {t : Tg} (hte : ∀ σ H Q, tE X.K C xe σ H Q → te σ H Q) (hg : ∀ v σ H Q, tG X.K C.scr t v σ H Q → g v σ H Q) (D : Ends) (σ : L2.St) (H : Hp) (h : tS X.K C (.set t xe) D σ H) : tAsg te g D σ H := by
  obtain ⟨L, S, ρ, f, S', sm, er, e, q⟩ := h
  have e : (evE C xe ρ >>= fun v => opt (asg t v ρ) >>= fun ρ' => (pure (.nx ρ') : M Flo)) S = .ok f S' := e
  obtain ⟨v, S1, e1, e2⟩ := ok_bind e
  obtain ⟨ρ', S2, e3, e4⟩ := ok_bind e2
  obtain ⟨h3, z3⟩ := opt_some e3
  obtain ⟨z1, z2⟩ := ok_pure e4
  subst z1 z2 z3
  exact hte σ H _ ⟨L, S, ρ, v, S2, sm, er, e1, fun w L1 H1 s1 x1 r1 => hg w σ H1 _ ⟨L1, _, ρ, v, ρ', s1, er.mono x1, .inl r1, h3, fun σ' er' _ => q σ' L1 H1 s1 x1 er'⟩⟩
theorem s_set {n : Nat} {y : Str} (hN : X.N.Nodup) (hi : X.N[n]? = some y) (hx : Loc X.env.scope y) (he : PE X e (tE X.K C xe)) (hs : swapsWith e (some (.Name y pos')) pos.line X.env = pure false) (hf : X.fn y = true ∨ X.env.scope.names.lookup y = some .local) :
    PS X (.Assign [.Name y pos'] e pos) (tS X.K C (.set (.nam n) xe)) :=
  PS.imp (ps_set hN hi hx he hs hf) (set_read (fun _ _ _ z => z) fun v σ H Q ⟨L, S, ρ, d, ρ', sm, er, rd, e, q⟩ => by
    have e : (if n < ρ.length then some (ρ.set n (some d)) else none) = some ρ' := e
    by_cases hz : n < ρ.length
    · rw [if_pos hz] at e
      cases e
      exact q _ (er.set n (RepB.rep rd)) fun vs hv => wipe_set (hv n (by simp [tgSlots]))
    · rw [if_neg hz] at e; cases e)
theorem s_asg {tg : Expr} {t : Tg} (he : PE X e (tE X.K C xe)) (hg : PG X tg (tG X.K C.scr t)) (hs : swapsWithSole [tg] e pos.line X.env = pure false) (hw : swappedStores [tg] e X.env = pure none) (h1 : (assignEach [tg] X.env).map (·.2) = [assign tg X.env]) :
    PS X (.Assign [tg] e pos) (tS X.K C (.set t xe)) := PS.imp (ps_asg he hg hs hw h1) (set_read (fun _ _ _ z => z) fun _ _ _ _ z => z)
theorem s_sub (hu : X.A.units + 66 < cLine) (he : PE X e (tE X.K C xe)) (ho : PE X o (tE X.K C xo)) (hi : PE X i (tE X.K C xi))
    (ha : ∀ v, assign (.Subscript o i pos') X.env v = (do
      let ov ← holding [v] (eval o X.env)
      let iv ← holding [v, ov] (eval i X.env)
      standAt pos'
      holding [v, ov, iv] (setItem ov iv v)
      release [v, ov, iv] [])) (hs : swapsWithSole [.Subscript o i pos'] e pos.line X.env = pure false) (hw : swappedStores [.Subscript o i pos'] e X.env = pure none) : PS X (.Assign [.Subscript o i pos'] e pos) (tS X.K C (.sub xo xi xe)) :=
  PS.imp (ps_asg he (pg_sub ho hi (set_ok (scr := C.scr) hu) ha) hs hw rfl) fun D σ H ⟨L, S, ρ, f, S', sm, er, e, q⟩ => by
    have e : (evE C xe ρ >>= fun v => evE C xo ρ >>= fun x => evE C xi ρ >>= fun y => setV x y v >>= fun _ => (pure (.nx ρ) : M Flo)) S = .ok f S' := e
    obtain ⟨v, S1, e1, ea⟩ := ok_bind e
    obtain ⟨x, S2, e2, eb⟩ := ok_bind ea
    obtain ⟨y, S3, e3, ec⟩ := ok_bind eb
    obtain ⟨u, S4, e4, ed⟩ := ok_bind ec
    obtain ⟨z1, z2⟩ := ok_pure ed
    subst z1 z2
    cases u
    refine ⟨L, S, ρ, v, S1, sm, er, e1, fun w L1 H1 s1 x1 r1 => ?_⟩
    refine ⟨L1, S1, ρ, x, S2, s1, er.mono x1, e2, fun w2 L2 H2 s2 x2 r2 => ?_⟩
    refine ⟨L2, S2, ρ, y, S3, s2, er.mono (x1.trans x2), e3, fun w3 L3 H3 s3 x3 r3 => ?_⟩
    exact ⟨L3, S3, x, y, v, _, s3, r2.mono x3, r3, r1.mono (x2.trans x3), e4, fun L4 H4 s4 x4 => q σ L4 H4 s4 (x1.trans (x2.trans (x3.trans x4))) (er.mono (x1.trans (x2.trans (x3.trans x4))))⟩
theorem aug_ok (op : Operator) : PIp X op (r2M X.K C.scr (augV op)) := by
  intro pins s σ H x y v u Q I rx ry h
  obtain ⟨L, S, a, b, d, S', sm, ra, rb, e, q⟩ := h
  unfold augV at e
  split at e
  · rename_i i j
    obtain ⟨e1, e2⟩ := ok_pure e
    subst e1 e2
    exact ip_add pins s σ H x y v u Q I rx ry ⟨i, j, ra.int, rb.int, q.here sm rep_int⟩
  · rename_i i j
    obtain ⟨e1, e2⟩ := ok_pure e
    subst e1 e2
    exact ip_sub pins s σ H x y v u Q I rx ry ⟨i, j, ra.int, rb.int, q.here sm rep_int⟩
  · exact (ok_bad e).elim
theorem var_some {ρ : Ev.Env} {n : Nat} {v : Val} {S S' : Sto} (h : varM ρ n S = .ok v S') : ρ[n]? = some (some v) ∧ S' = S := by
  unfold varM at h
  cases h1 : ρ[n]? with
  | none => rw [h1] at h; exact (ok_bad h).elim
  | some o =>
    rw [h1] at h
    cases o with
    | none => exact (ok_bad (S := S) h).elim
    | some w => obtain ⟨e1, e2⟩ := ok_pure (S := S) h; subst e1; exact ⟨rfl, e2.symm⟩
theorem s_aug {n : Nat} {y : Str} {op : Operator} (hN : X.N.Nodup) (hi : X.N[n]? = some y) (hx : Loc X.env.scope y) (he : PE X e (tE X.K C xe)) (hf : X.fn y = true ∨ X.env.scope.names.lookup y = some .local) :
    PS X (.AugAssign (.Name y pos') op e pos) (tS X.K C (.aug n op xe)) :=
  PS.imp (ps_aug hN hi hx he (aug_ok (C := C) op) hf) fun D σ H ⟨L, S, ρ, f, S', sm, er, e, q⟩ => by
    have e : (varM ρ n >>= fun x => evE C xe ρ >>= fun y => augV op x y >>= fun z => opt (asg (.nam n) z ρ) >>= fun ρ' => (pure (.nx ρ') : M Flo)) S = .ok f S' := e
    obtain ⟨x, S1, e1, ea⟩ := ok_bind e
    obtain ⟨h1, z1⟩ := var_some e1
    obtain ⟨y, S2, e2, eb⟩ := ok_bind ea
    obtain ⟨z, S3, e3, ec⟩ := ok_bind eb
    obtain ⟨ρ', S4, e4, ed⟩ := ok_bind ec
    obtain ⟨h4, z4⟩ := opt_some e4
    obtain ⟨z5, z6⟩ := ok_pure ed
    subst z1 z4 z5 z6
    obtain ⟨w, g1, g2⟩ := er.val n x h1
    refine ⟨w, g1, L, _, ρ, y, S2, sm, er, e2, fun w2 L2 H2 s2 x2 r2 => ?_⟩
    refine ⟨L2, S2, x, y, z, _, s2, g2.mono x2, r2, e3, fun w3 L3 H3 s3 x3 r3 => ?_⟩
    have h4 : (if n < ρ.length then some (ρ.set n (some z)) else none) = some ρ' := h4
    by_cases hz : n < ρ.length
    · rw [if_pos hz] at h4
      cases h4
      exact q _ L3 H3 s3 (x2.trans x3) ((er.mono (x2.trans x3)).set n r3)
    · rw [if_neg hz] at h4; cases h4
theorem s_augS {op : Operator} (hu : X.A.units + 66 < cLine) (ho : PE X o (tE X.K C xo)) (hi : PE X i (tE X.K C xi)) (he : PE X e (tE X.K C xe))
    (ha : ∀ ov iv new, augStore i ov iv new = (do holding [new, ov, iv] (setItem ov iv new); release [new, ov, iv] []; pure .next)) : PS X (.AugAssign (.Subscript o i pos') op e pos) (tS X.K C (.augs xo xi op xe)) :=
  PS.imp (ps_augS ho hi (get_ok (scr := C.scr) hu) he (aug_ok (C := C) op) (set_ok (scr := C.scr) hu) ha) fun D σ H ⟨L, S, ρ, f, S', sm, er, e, q⟩ => by
    have e : (evE C xo ρ >>= fun x => evE C xi ρ >>= fun y => getM x y >>= fun a => evE C xe ρ >>= fun b => augV op a b >>= fun z => setV x y z >>= fun _ => (pure (.nx ρ) : M Flo)) S = .ok f S' := e
    obtain ⟨x, S1, e1, ea⟩ := ok_bind e
    obtain ⟨y, S2, e2, eb⟩ := ok_bind ea
    obtain ⟨a, S3, e3, ec⟩ := ok_bind eb
    obtain ⟨b, S4, e4, ed⟩ := ok_bind ec
    obtain ⟨z, S5, e5, ee⟩ := ok_bind ed
    obtain ⟨u, S6, e6, ef⟩ := ok_bind ee
    obtain ⟨z1, z2⟩ := ok_pure ef
    subst z1 z2
    cases u
    refine ⟨L, S, ρ, x, S1, sm, er, e1, fun w L1 H1 s1 x1 r1 => ?_⟩
    refine ⟨L1, S1, ρ, y, S2, s1, er.mono x1, e2, fun w2 L2 H2 s2 x2 r2 => ?_⟩
    cases x with
    | loc n =>
      have e3 : idxV (.loc n) y S2 = .ok a S3 := e3
      refine ⟨L2, S2, n, y, a, S3, s2, r1.mono x2, r2, e3, fun w3 L3 H3 s3 x3 r3 => ?_⟩
      refine ⟨L3, S3, ρ, b, S4, s3, er.mono (x1.trans (x2.trans x3)), e4, fun w4 L4 H4 s4 x4 r4 => ?_⟩
      refine ⟨L4, S4, a, b, z, S5, s4, r3.mono x4, r4, e5, fun w5 L5 H5 s5 x5 r5 => ?_⟩
      have x6 := x3.trans (x4.trans x5)
      exact ⟨L5, S5, .loc n, y, z, _, s5, r1.mono (x2.trans x6), r2.mono x6, r5, e6, fun L7 H7 s7 x7 => q σ L7 H7 s7 (x1.trans (x2.trans (x6.trans x7))) (er.mono (x1.trans (x2.trans (x6.trans x7))))⟩
    | _ => exact (ok_bad (S := S2) e3).elim
theorem s_for {tg iter : Expr} {body : List Stmt} {t : Tg} {it : Ev.It} {xb : Sxs} (hp : PassesOwn (model X.prog X.w) X.A X.env X.xe) (hc : X.calm = true) (hi : PI X tg iter (tI X.K C (tgTup t) it)) (hg : PG X tg (tG X.K C.scr t)) (hb : PSs X body (tSs X.K C xb))
    (hs : ∀ x, foldedSetIterable iter X.env x = pure x) : PS X (.For tg iter body [] pos) (tS X.K C (.for_ t it xb)) :=
  PS.imp (ps_for hp hc hi hg hb hs) fun D σ H ⟨L, S, ρ, f, S', sm, er, e, q⟩ => by
    have e : (evI C it ρ >>= fun w => forLoop w t (evSs C xb) w.xs ρ) S = .ok f S' := e
    obtain ⟨w, S1, e1, e2⟩ := ok_bind e
    refine ⟨L, S, ρ, w, S1, sm, er, e1, fun J L1 H1 s1 x1 wk => ?_⟩
    have q := q.mono x1
    have er := er.mono x1
    refine ⟨fun i m σ' H' => m = w.xs.length - i ∧ i ≤ w.xs.length ∧ ∃ L' S'' ρ', Ext L1 H1 L' H' ∧ Sim X.K C.scr L' S'' H' ∧ EnvR X.K C.scr L' H' ρ' σ' ∧ forLoop w t (evSs C xb) (w.xs.drop i) ρ' S'' = .ok f S', ⟨w.xs.length, by simp, Nat.zero_le _, L1, S1, ρ, Ext.refl L1 H1, s1, er, by simpa using e2⟩, ?_⟩
    rintro i m σ' H' ⟨rfl, hi', L', S'', ρ', x', s', er', el⟩
    by_cases hlt : i < w.xs.length
    · have hd : w.xs.drop i = w.xs[i] :: w.xs.drop (i + 1) := List.drop_eq_getElem_cons hlt
      rw [hd] at el
      have el : (still w.held >>= fun _ => opt (asg t w.xs[i] ρ') >>= fun ρ2 => evSs C xb ρ2 >>= fun f => match f with
        | .nx ρ2 => forLoop w t (evSs C xb) (w.xs.drop (i + 1)) ρ2
        | .ct ρ2 => forLoop w t (evSs C xb) (w.xs.drop (i + 1)) ρ2
        | .bk ρ2 => pure (.nx ρ2)
        | .rt v => pure (.rt v)) S'' = .ok f S' := el
      obtain ⟨k1, el⟩ := still_bind el
      obtain ⟨ρ2, h2, el⟩ := opt_bind el
      obtain ⟨fl, Sc, k3, el⟩ := ok_bind el
      obtain ⟨w1, _⟩ := wk L' _ H' x' s' k1 i
      obtain ⟨go, yl⟩ := w1 w.xs[i] (by simp [hlt])
      refine .inr ⟨go, fun σ5 H5 => i + 1 ≤ w.xs.length ∧ ∃ L' S'' ρ', Ext L1 H1 L' H5 ∧ Sim X.K C.scr L' S'' H5 ∧ EnvR X.K C.scr L' H5 ρ' σ5 ∧ forLoop w t (evSs C xb) (w.xs.drop (i + 1)) ρ' S'' = .ok f S', fun σ5 H5 h5 => ⟨w.xs.length - (i + 1), by omega, rfl, h5⟩, fun x H2 hy => ?_⟩
      obtain ⟨x2, s2, r2⟩ := yl x H2 hy
      refine ⟨L', _, ρ', _, ρ2, s2, er'.mono x2, r2, h2, fun σ3 er3 _ => ⟨L', _, ρ2, fl, Sc, s2, er3, k3, ?_⟩⟩
      cases fl with
      | nx ρ4 => exact fun σ4 L4 H4 s4 x4 er4 => ⟨hlt, L4, Sc, ρ4, x'.trans (x2.trans x4), s4, er4, el⟩
      | ct ρ4 => exact fun σ4 L4 H4 s4 x4 er4 => ⟨hlt, L4, Sc, ρ4, x'.trans (x2.trans x4), s4, er4, el⟩
      | bk ρ4 =>
        obtain ⟨z1, z2⟩ := ok_pure el
        subst z1 z2
        exact fun σ4 L4 H4 s4 x4 er4 => q σ4 L4 H4 s4 (x'.trans (x2.trans x4)) er4
      | rt v =>
        obtain ⟨z1, z2⟩ := ok_pure el
        subst z1 z2
        exact fun v4 L4 H4 s4 x4 r4 => q v4 L4 H4 s4 (x'.trans (x2.trans x4)) r4
    · have hin : i = w.xs.length := by omega
      subst hin
      have el : (still w.held >>= fun _ => (pure (.nx ρ') : M Flo)) S'' = .ok f S' := by
        have hd : w.xs.drop w.xs.length = [] := by simp
        rw [hd] at el
        exact el
      obtain ⟨k1, el⟩ := still_bind el
      obtain ⟨z1, z2⟩ := ok_pure el
      subst z1 z2
      obtain ⟨_, w2⟩ := wk L' _ H' x' s' k1 w.xs.length
      exact .inl ⟨w2 (Nat.le_refl _), q σ' L' H' s' x' er'⟩
theorem s_whl {body : List Stmt} {xb : Sxs} (hp : PassesOwn (model X.prog X.w) X.A X.env X.xe) (hc : PT X c (tT X.K C xc)) (hb : PSs X body (tSs X.K C xb)) : PS X (.While c body [] pos) (tS X.K C (.whl xc xb)) :=
  PS.imp (ps_while hp hc hb) fun D σ H ⟨L, S, ρ, f, S', sm, er, e, q⟩ => by
    have e : whlLoop (evT C xc) (evSs C xb) C.gas ρ S = .ok f S' := e
    refine ⟨fun m σ' H' => ∃ L' S'' ρ', Ext L H L' H' ∧ Sim X.K C.scr L' S'' H' ∧ EnvR X.K C.scr L' H' ρ' σ' ∧ whlLoop (evT C xc) (evSs C xb) m ρ' S'' = .ok f S', ⟨C.gas, L, S, ρ, Ext.refl L H, sm, er, e⟩, ?_⟩
    rintro m σ' H' ⟨L', S'', ρ', x', s', er', el⟩
    cases m with
    | zero => exact (ok_bad (S := S'') el).elim
    | succ m =>
      have el : (evT C xc ρ' >>= fun t => if t then (evSs C xb ρ' >>= fun f => match f with
        | .nx ρ2 => whlLoop (evT C xc) (evSs C xb) m ρ2
        | .ct ρ2 => whlLoop (evT C xc) (evSs C xb) m ρ2
        | .bk ρ2 => pure (.nx ρ2)
        | .rt v => pure (.rt v)) else pure (.nx ρ')) S'' = .ok f S' := el
      obtain ⟨t, Sa, k1, el⟩ := ok_bind el
      refine ⟨L', S'', ρ', t, Sa, s', er', k1, fun L2 H2 s2 x2 => ?_⟩
      cases t with
      | false =>
        rw [if_neg Bool.false_ne_true] at el
        rw [if_neg Bool.false_ne_true]
        obtain ⟨z1, z2⟩ := ok_pure el
        subst z1 z2
        exact q σ' L2 H2 s2 (x'.trans x2) (er'.mono x2)
      | true =>
        rw [if_pos rfl] at el
        rw [if_pos rfl]
        obtain ⟨fl, Sc, k3, el⟩ := ok_bind el
        refine ⟨fun σ5 H5 => ∃ L' S'' ρ', Ext L H L' H5 ∧ Sim X.K C.scr L' S'' H5 ∧ EnvR X.K C.scr L' H5 ρ' σ5 ∧ whlLoop (evT C xc) (evSs C xb) m ρ' S'' = .ok f S', fun σ5 H5 h5 => ⟨m, Nat.lt_succ_self _, h5⟩, L2, Sa, ρ', fl, Sc, s2, er'.mono x2, k3, ?_⟩
        cases fl with
        | nx ρ4 => exact fun σ4 L4 H4 s4 x4 er4 => ⟨L4, Sc, ρ4, x'.trans (x2.trans x4), s4, er4, el⟩
        | ct ρ4 => exact fun σ4 L4 H4 s4 x4 er4 => ⟨L4, Sc, ρ4, x'.trans (x2.trans x4), s4, er4, el⟩
        | bk ρ4 =>
          obtain ⟨z1, z2⟩ := ok_pure el
          subst z1 z2
          exact fun σ4 L4 H4 s4 x4 er4 => q σ4 L4 H4 s4 (x'.trans (x2.trans x4)) er4
        | rt v =>
          obtain ⟨z1, z2⟩ := ok_pure el
          subst z1 z2
          exact fun v4 L4 H4 s4 x4 r4 => q v4 L4 H4 s4 (x'.trans (x2.trans x4)) r4
end
end Ev

end

section
set_option maxHeartbeats 1000000
/-! Ev10: from the text to the reckoner's text. -/
namespace Ev
open PySem L2 PyProof.Rows

/-! ### the turning -/
def notStar : Expr → Bool
  | .Starred .. => false
  | _ => true
def notSet : Expr → Bool
  | .Set .. => false
  | _ => true
def notSlice : Expr → Bool
  | .Slice .. => false
  | _ => true
def notComp : Expr → Bool
  | .ListComp .. => false
  | .SetComp .. => false
  | .DictComp .. => false
  | _ => true
def plainBase : Expr → Bool
  | .Call .. => false
  | _ => true
structure Gs where
  N : List Str
  defs : List (Str × Nat)
  glos : List Str
  frees : List Str
def ix (N : List Str) (x : Str) : Option Nat := N.findIdx? fun y => decide (y = x)
theorem ix_get {N : List Str} {x : Str} {i : Nat} (h : ix N x = some i) : N[i]? = some x := by
  unfold ix at h
  rw [List.findIdx?_eq_some_iff_getElem] at h
  obtain ⟨h1, h2, _⟩ := h
  simp at h2
  simp [h1, h2]
def okName (x : Str) : Bool := decide (x ≠ "__debug__") && decide (x ≠ "__classdict__") && decide (x ≠ "__name__")
def cvVar (G : Gs) (sc : Scope) (x : Str) : Option Nat := match sc.names.lookup x with
  | some .local => ix G.N x
  | some .cell => ix G.N x
  | some .free => ix G.N x
  | _ => none
def isGl (sc : Scope) (x : Str) : Bool := match sc.names.lookup x with
  | some .globalImplicit => true
  | _ => false
def tyNames : List (Str × String) := [("int", "int"), ("bool", "bool"), ("str", "str"), ("tuple", "tuple"), ("list", "list"), ("dict", "dict")]
def tyNamed (x : Str) : Option String := (tyNames.find? fun p => decide (p.1 = x)).map (·.2)
def cvTgs (f : Expr → Option Tg) : List Expr → Option Tgs
  | [] => some .nil
  | e :: es => if notStar e then match f e, cvTgs f es with
    | some t, some ts => some (.cons t ts)
    | _, _ => none
    else none
def cvTgN (G : Gs) (sc : Scope) (fnc : Str → Bool) (x : Str) : Option Nat := match sc.names.lookup x with
  | some .local => ix G.N x
  | some .cell => if fnc x then ix G.N x else none
  | _ => none
def cvTg (G : Gs) (sc : Scope) (fnc : Str → Bool) : Nat → Expr → Option Tg
  | n + 1, e => match e with
    | .Name x _ => (cvTgN G sc fnc x).map .nam
    | .Tuple es _ _ => (cvTgs (cvTg G sc fnc n) es).map .tup
    | _ => none
  | 0, _ => none

def cv1 (mk : Ex → Ex) : Option Ex → Option Ex
  | some x => some (mk x)
  | none => none
def cv2 (mk : Ex → Ex → Ex) : Option Ex → Option Ex → Option Ex
  | some x, some y => some (mk x y)
  | _, _ => none
def cv3 (mk : Ex → Ex → Ex → Ex) : Option Ex → Option Ex → Option Ex → Option Ex
  | some x, some y, some z => some (mk x y z)
  | _, _, _ => none
def cvL (f : Expr → Option Ex) : List Expr → Option Exs
  | [] => some .nil
  | e :: es => match f e, cvL f es with
    | some x, some xs => some (.cons x xs)
    | _, _ => none
def cvB (f : Expr → Option Ex) (mk : Ex → Ex → Ex) : List Expr → Option Ex
  | [] => none
  | [a] => f a
  | a :: b :: r => cv2 mk (f a) (cvB f mk (b :: r))
def cvConst : Const → Option Ex
  | .int i => some (.int i)
  | .bool b => some (.bl b)
  | .none => some .non
  | .str x => some (.str x)
  | _ => none
def cvName (G : Gs) (sc : Scope) (x : Str) : Option Ex :=
  if okName x then match cvVar G sc x with
    | some i => some (.var i)
    | none => if isGl sc x then (if x ∈ G.glos then some (.glo x) else if x ∈ G.frees then cv1 id ((tyNamed x).map .ty) else none) else none
  else none
def cvCmp (f : Expr → Option Ex) (a : Expr) (ops : List CmpOp) (bs : List Expr) : Option Ex := match ops, bs with
  | [op], [b] => if notSet b then cv2 (.cmp op) (f a) (f b) else none
  | [op, op'], [b, c] => if notSet c then cv3 (.chn op op') (f a) (f b) (f c) else none
  | _, _ => none
/-- an end of a slice: left out, or an expression -/
def cvEnd (f : Expr → Option Ex) : Option Expr → Option Ex
  | none => some .non
  | some e => match f e with
    | some x => if isNon x then none else some x
    | none => none
def cvSub (f : Expr → Option Ex) (a s : Expr) : Option Ex := match s with
  | .Slice lo hi st _ => (match st with
    | none => cv3 .sli (f a) (cvEnd f lo) (cvEnd f hi)
    | some (.UnaryOp .USub (.Constant (.int 1) _ _) _) => (match lo, hi with
      | none, none => cv1 .rev (f a)
      | _, _ => none)
    | _ => none)
  | s => cv2 .idx (f a) (f s)
def biNames : List (Str × String) := [("len", "len"), ("isinstance", "isinstance"), ("repr", "repr"), ("abs", "abs"), ("min", "min"), ("max", "max"), ("int", "int"), ("str", "str")]
def sqNames : List (Str × String) := [("tuple", "tuple"), ("list", "list"), ("all", "all"), ("any", "any"), ("sum", "sum"), ("dict", "dict")]
def named (l : List (Str × String)) (x : Str) : Option String := (l.find? fun p => decide (p.1 = x)).map (·.2)
def cvCall (G : Gs) (sc : Scope) (f : Expr → Option Ex) (x : Str) (args : List Expr) : Option Ex :=
  if okName x && isGl sc x then match cvL f args with
    | some xs => (match G.defs.find? fun p => decide (p.1 = x) with
      | some (_, n) => if args.length = n then some (.call x xs) else none
      | none => if x ∈ G.frees then (match named sqNames x with
        | some fn => (match xs with
          | .cons e .nil => some (.sq fn e)
          | _ => none)
        | none => (match named biNames x, args with
          | some fn, _ :: _ => some (.bi fn xs)
          | _, _ => none)) else none)
    | none => none
  else none
def mtNames : List (Str × String) := [("append", "append"), ("pop", "pop"), ("index", "index"), ("get", "get"), ("count", "count"), ("insert", "insert")]
def cvMet (f : Expr → Option Ex) (o : Expr) (m : Str) (apos pos : Pos) (args : List Expr) : Option Ex :=
  if plainBase o && (apos.endLine == pos.line) && decide (args.length < 29) then match f o, cvL f args with
    | some x, some xs => if m = "extend" then (match xs with
        | .cons e .nil => some (.ext x e)
        | _ => none)
      else (named mtNames m).map fun mn => .met x mn xs
    | _, _ => none
  else none
def isTupE : Expr → Bool
  | .Tuple .. => true
  | _ => false
def cvItC (G : Gs) (sc : Scope) (f : Expr → Option Ex) (tg : Expr) (x : Str) (args : List Expr) : Option It :=
  if isGl sc x && decide (x ∈ G.frees) then
    (if x = "range" then match args with
      | [a] => (f a).map .rng1
      | [a, b] => (match f a, f b with | some xa, some xb => some (.rng2 xa xb) | _, _ => none)
      | _ => none
    else if x = "zip" ∧ isTupE tg = true then match args with
      | [a, b] => (match f a, f b with | some xa, some xb => some (.zip xa xb) | _, _ => none)
      | _ => none
    else if x = "enumerate" ∧ isTupE tg = true then match args with
      | [a] => (f a).map .enum
      | _ => none
    else none)
  else none
def cvIt (G : Gs) (sc : Scope) (f : Expr → Option Ex) (tg iter : Expr) : Option It :=
  if notSet iter then match iter with
    | .Call (.Name x p) args [] pos => (match cvItC G sc f tg x args with
      | some it => some it
      | none => (f (.Call (.Name x p) args [] pos)).map .seq)
    | e => (f e).map .seq
  else none
def cvIfs (f : Expr → Option Ex) : List Expr → Option Ex
  | [] => some (.bl true)
  | [c] => f c
  | _ => none
def ownOf (N : List Str) (t : Tg) : List (Str × Nat) := (tgSlots t).filterMap fun i => (N[i]?).map fun x => (x, i)
def blkFn (scope : Scope) : Str → Bool := fun x => scope.names.lookup x == some .cell
def cvCom (G : Gs) (sc : Scope) (f : Scope → Expr → Option Ex) (elt : Expr) (gens : List Comprehension) (scope : Scope) : Option Ex := match gens with
  | [⟨tg, iter, ifs, 0⟩] => (match cvTg G (relS scope sc) (blkFn scope) 4 tg with
    | some t => if blkC G.N sc scope (ownOf G.N t) && (tgSlots t).all (fun i => decide (i ∈ (ownOf G.N t).map (·.2))) then
        (match cvIt G sc (f sc) tg iter, cvIfs (f (relS scope sc)) ifs, f (relS scope sc) elt with
          | some it, some c, some e => some (.com ((ownOf G.N t).map (·.2)) t it c e)
          | _, _, _ => none)
      else none
    | none => none)
  | _ => none
def cvE (G : Gs) : Nat → Scope → Expr → Option Ex
  | 0, _, _ => none
  | n + 1, sc, e => match e with
    | .Constant c _ _ => cvConst c
    | .Name x _ => cvName G sc x
    | .BinOp a op b _ => cv2 (.bin op) (cvE G n sc a) (cvE G n sc b)
    | .UnaryOp op a _ => (match op with
      | .USub => cv1 .neg (cvE G n sc a)
      | .Not => cv1 .not (cvE G n sc a)
      | _ => none)
    | .BoolOp op vs _ => (match op with
      | .And => cvB (cvE G n sc) .and vs
      | .Or => cvB (cvE G n sc) .or vs)
    | .IfExp c a b _ => cv3 .ite (cvE G n sc c) (cvE G n sc a) (cvE G n sc b)
    | .Compare a ops bs _ => cvCmp (cvE G n sc) a ops bs
    | .Tuple es _ _ => if es.length ≤ 100000 then (cvL (cvE G n sc) es).map .tup else none
    | .List es _ => if es.length ≤ 100000 then (cvL (cvE G n sc) es).map .lst else none
    | .Dict ks vs _ => (match ks, vs with
      | [], [] => some .dic
      | _, _ => none)
    | .Subscript a s _ => cvSub (cvE G n sc) a s
    | .Call fe args kws pos => (match kws with
      | [] => (match fe with
        | .Name x _ => cvCall G sc (cvE G n sc) x args
        | .Attribute o m apos => cvMet (cvE G n sc) o m apos pos args
        | _ => none)
      | _ => none)
    | .ListComp elt gens scope _ => cvCom G sc (cvE G n) elt gens scope
    | _ => none
end Ev

end

section
set_option maxHeartbeats 1000000
/-! Ev11: the turned text does what the text does: expressions. -/
namespace Ev
open PySem L2 PyProof.Rows

structure Good (G : Gs) (sc : Scope) (fnc : Str → Bool) (C : Ev.Ctx) (k : Nat) (X : Cx) : Prop where
  N : X.N = G.N
  nd : G.N.Nodup
  sc : X.env.scope = sc
  calm : X.calm = true
  room : Room k X.A
  guards : X.A.guards = some []
  fn : X.fn = fnc
  xe : X.xe = fun _ _ => False
  defs : ∀ y n, (y, n) ∈ G.defs → ∃ f fd ps, X.mg y = some (.ref f) ∧ PySem.W.keepIn X.K (.ref f) = true ∧ Binds X.K fd ps [] ∧ FnG X.prog X.w X.K X.mg X.base k f fd ps (spM X.K C.scr n (C.call y))
  glos : ∀ y ∈ G.glos, ∃ d v u, X.mg y = some u ∧ RelV v u ∧ C.glo y = some d ∧ ∀ L H, Rep X.K C.scr L H d v
  frees : ∀ y ∈ G.frees, X.mg y = none

section
variable {G : Gs} {sc : Scope} {fnc : Str → Bool} {C : Ev.Ctx} {k : Nat} {X : Cx}
theorem Good.un (g : Good G sc fnc C k X) : X.A.units + 66 < cLine := by have := g.room.un; omega
theorem Good.blk (g : Good G sc fnc C k X) (s : Shared) (H : Hp) (scope : Scope) (cl : List (Str × Addr)) (D : Addr) (fp : List Addr) :
    Good G (relS scope sc) (blkFn scope) C k (X.blk s H scope (compEnvC scope cl D X.env) fp) :=
  ⟨g.N, g.nd, by rw [← g.sc]; rfl, g.calm, g.room, g.guards, rfl, rfl, g.defs, g.glos, g.frees⟩
theorem Good.gl (g : Good G sc fnc C k X) {x : Str} (h : isGl sc x = true) : Gl X x := by
  show X.env.scope.names.lookup x = some .globalImplicit
  rw [g.sc]
  unfold isGl at h
  split at h
  · assumption
  · cases h
theorem ok_dbg {x : Str} (h : okName x = true) : (x == ("__debug__" : Str)) = false ∧ (x == ("__classdict__" : Str)) = false ∧ x ≠ "__name__" := by
  unfold okName at h
  rw [Bool.and_eq_true, Bool.and_eq_true] at h
  exact ⟨beq_eq_false_iff_ne.mpr (of_decide_eq_true h.1.1), beq_eq_false_iff_ne.mpr (of_decide_eq_true h.1.2), of_decide_eq_true h.2⟩
theorem Good.var (g : Good G sc fnc C k X) {x : Str} {i : Nat} (h : cvVar G sc x = some i) : X.N[i]? = some x ∧ Vis X.env.scope x := by
  rw [g.N, g.sc]
  unfold cvVar at h
  split at h
  · rename_i e; exact ⟨ix_get h, .inl e⟩
  · rename_i e; exact ⟨ix_get h, .inr (.inl e)⟩
  · rename_i e; exact ⟨ix_get h, .inr (.inr e)⟩
  · cases h

/-! ### rows of arguments -/
theorem star1 {env : PySem.Env} {e : Expr} {es : List Expr} (h : notStar e = true) : starEach (e :: es) env = (false, eval e env) :: starEach es env := by
  cases e <;> first | rfl | cases h
theorem noStar {env : PySem.Env} {pos : Pos} : ∀ {es : List Expr}, (∀ e ∈ es, notStar e = true) → (backTo pos (starEach es env)).any (·.1) = false
  | [], _ => rfl
  | e :: es, h => by
    rw [star1 (h e List.mem_cons_self)]
    show (false || (backTo pos (starEach es env)).any (·.1)) = false
    rw [noStar fun x hx => h x (List.mem_cons_of_mem _ hx)]
    rfl
theorem allStar {env : PySem.Env} {pos : Pos} : ∀ {es : List Expr}, (∀ e ∈ es, notStar e = true) → (backTo pos (starEach es env)).all (fun x => !x.1) = true
  | [], _ => rfl
  | e :: es, h => by
    rw [star1 (h e List.mem_cons_self)]
    show (true && (backTo pos (starEach es env)).all (fun x => !x.1)) = true
    rw [allStar fun x hx => h x (List.mem_cons_of_mem _ hx)]
    rfl
theorem cvL_len {f : Expr → Option Ex} : ∀ {es : List Expr} {xs : Exs}, cvL f es = some xs → ∀ (C : Ev.Ctx) ρ S ds S', evEs C xs ρ S = .ok ds S' → ds.length = es.length
  | [], xs, h, C, ρ, S, ds, S', e => by
    cases h
    obtain ⟨e1, _⟩ := ok_pure e
    subst e1; rfl
  | e :: es, xs, h, C, ρ, S, ds, S', e' => by
    unfold cvL at h
    split at h
    · rename_i x ys h1 h2
      cases h
      have e' : (evE C x ρ >>= fun v => evEs C ys ρ >>= fun r => pure (v :: r)) S = .ok ds S' := e'
      obtain ⟨v, S1, e1, ea⟩ := ok_bind e'
      obtain ⟨r, S2, e2, eb⟩ := ok_bind ea
      obtain ⟨z, _⟩ := ok_pure eb
      subst z
      simp [cvL_len h2 C ρ S1 r S2 e2]
    · cases h

/-- what is shown of an expression -/
structure Is (X : Cx) (C : Ev.Ctx) (e : Expr) (x : Ex) : Prop where
  v : PE X e (tE X.K C x)
  t : PT X e (tT X.K C x)
  q : PE X e (tQ X.K C x)
  ns : notStar e = true
theorem Is.of {e : Expr} {x : Ex} (h : PE X e (tE X.K C x)) (he : ∀ whole, isTrue e X.env whole = (do let v ← whole; standAt e.pos; holding [v] (truthy v)))
    (hx : ∀ ρ, evT C x ρ = (evE C x ρ >>= tru)) (hq : ∀ ρ, evQ C x ρ = (evE C x ρ >>= seqM)) (ns : notStar e = true) : Is X C e x := ⟨h, s_truth h he hx, s_seq h hq, ns⟩
theorem is_args {f : Expr → Option Ex} (hf : ∀ e x, f e = some x → Is X C e x) : ∀ {es : List Expr} {xs : Exs}, cvL f es = some xs → PA X es (tEs X.K C xs) ∧ ∀ e ∈ es, notStar e = true
  | [], xs, h => by cases h; exact ⟨s_nil, fun _ h => nomatch h⟩
  | e :: es, xs, h => by
    unfold cvL at h
    split at h
    · rename_i x ys h1 h2
      cases h
      have i1 := hf e x h1
      obtain ⟨i2, i3⟩ := is_args hf h2
      refine ⟨s_cons i1.v i2 (star1 i1.ns), fun z hz => ?_⟩
      rcases List.mem_cons.mp hz with rfl | hz
      · exact i1.ns
      · exact i3 z hz
    · cases h

/-! ### targets -/
theorem assignEach_map {env : PySem.Env} {e : Expr} {es : List Expr} (h : notStar e = true) : assignEach (e :: es) env = (false, assign e env) :: assignEach es env := by
  cases e <;> first | rfl | cases h
theorem is_tgs {f : Expr → Option Tg} (hf : ∀ e t, f e = some t → PG X e (tG X.K C.scr t)) : ∀ {es : List Expr} {ts : Tgs}, cvTgs f es = some ts → PGs X es (tGs X.K C.scr ts) ∧ (assignEach es X.env).length = ts.len ∧ (assignEach es X.env).findIdx? (·.1) = none
  | [], ts, h => by cases h; exact ⟨s_tgsNil, rfl, rfl⟩
  | e :: es, ts, h => by
    unfold cvTgs at h
    by_cases hn : notStar e = true
    · rw [if_pos hn] at h
      split at h
      · rename_i t us h1 h2
        cases h
        obtain ⟨i1, i2, i3⟩ := is_tgs hf h2
        refine ⟨s_tgsCons (hf e t h1) i1 (by rw [assignEach_map hn]; rfl), ?_, ?_⟩
        · rw [assignEach_map hn]; simp [Tgs.len, i2]
        · rw [assignEach_map hn, List.findIdx?_cons, i3]; rfl
      · cases h
    · rw [if_neg hn] at h; cases h
theorem is_tg (g : Good G sc fnc C k X) : ∀ (n : Nat) {e : Expr} {t : Tg}, cvTg G sc fnc n e = some t → PG X e (tG X.K C.scr t) := by
  intro n
  induction n with
  | zero => intro e t h; cases h
  | succ n ih =>
    intro e t h
    cases e with
    | Name x pos =>
      have h : (cvTgN G sc fnc x).map .nam = some t := h
      cases h1 : cvTgN G sc fnc x with
      | none => rw [h1] at h; cases h
      | some i =>
        rw [h1] at h
        cases h
        unfold cvTgN at h1
        split at h1
        · rename_i e1
          exact s_tgName (by rw [g.N]; exact g.nd) (by rw [g.N]; exact ix_get h1) (by rw [g.sc]; exact .inl e1) (by rw [g.sc]; exact .inr e1)
        · rename_i e1
          by_cases hf : fnc x = true
          · rw [if_pos hf] at h1
            exact s_tgName (by rw [g.N]; exact g.nd) (by rw [g.N]; exact ix_get h1) (by rw [g.sc]; exact .inr e1) (by rw [g.fn]; exact .inl hf)
          · rw [if_neg hf] at h1; cases h1
        · cases h1
    | Tuple es j pos =>
      have h : (cvTgs (cvTg G sc fnc n) es).map .tup = some t := h
      cases h1 : cvTgs (cvTg G sc fnc n) es with
      | none => rw [h1] at h; cases h
      | some ts =>
        rw [h1] at h
        cases h
        obtain ⟨i1, i2, i3⟩ := is_tgs (X := X) (C := C) (fun e t h => ih h) h1
        exact s_tgTup g.calm i1 i2 i3 fun ds ρ ρ' h => asgs_len h
    | _ => cases h

theorem tgTup_of {n : Nat} {e : Expr} {t : Tg} (h : cvTg G sc fnc n e = some t) : tgTup t = isTupE e := by
  cases n with
  | zero => cases h
  | succ n =>
    cases e with
    | Name x pos =>
      have h : (cvTgN G sc fnc x).map .nam = some t := h
      cases h1 : cvTgN G sc fnc x with
      | none => rw [h1] at h; cases h
      | some i => rw [h1] at h; cases h; rfl
    | Tuple es j pos =>
      have h : (cvTgs (cvTg G sc fnc n) es).map .tup = some t := h
      cases h1 : cvTgs (cvTg G sc fnc n) es with
      | none => rw [h1] at h; cases h
      | some i => rw [h1] at h; cases h; rfl
    | _ => cases h
/-! ### calls -/
theorem find_mem {α : Type} {l : List (Str × α)} {x : Str} {p : Str × α} (h : l.find? (fun p => decide (p.1 = x)) = some p) : p.1 = x ∧ p ∈ l :=
  ⟨by have := List.find?_some h; simpa using this, List.mem_of_find?_eq_some h⟩
theorem named_mem {l : List (Str × String)} {x : Str} {fn : String} (h : named l x = some fn) : (x, fn) ∈ l := by
  unfold named at h
  cases e : l.find? fun p => decide (p.1 = x) with
  | none => rw [e] at h; cases h
  | some p =>
    rw [e] at h
    cases h
    obtain ⟨h1, h2⟩ := find_mem e
    subst h1
    exact h2
theorem is_call (g : Good G sc fnc C k X) {f : Expr → Option Ex} (hf : ∀ e x, f e = some x → Is X C e x) {y : Str} {p pos : Pos} {args : List Expr} {x : Ex} (h : cvCall G sc f y args = some x) : Is X C (.Call (.Name y p) args [] pos) x := by
  unfold cvCall at h
  by_cases h0 : (okName y && isGl sc y) = true
  · rw [if_pos h0] at h
    rw [Bool.and_eq_true] at h0
    obtain ⟨d1, d2, d3⟩ := ok_dbg h0.1
    have hg := g.gl h0.2
    split at h
    · rename_i xs h1
      obtain ⟨ia, ins⟩ := is_args hf h1
      have hlen := fun ρ S ds S' e => cvL_len h1 C ρ S ds S' e
      split at h
      · rename_i z n h2
        obtain ⟨z1, z2⟩ := find_mem h2
        have z1 : z = y := z1
        subst z1
        by_cases hn : args.length = n
        · rw [if_pos hn] at h
          cases h
          obtain ⟨f0, fd, ps, m1, m2, m3, m4⟩ := g.defs _ n z2
          cases args with
          | nil =>
            cases h1
            subst hn
            exact Is.of (s_call0 m4 g.room g.guards hg m1 m2 m3 d1) (fun _ => rfl) (fun _ => rfl) (fun _ => rfl) rfl
          | cons e es =>
            exact Is.of (s_call m4 g.room g.guards hg m1 m2 m3 ia d1 (star1 (ins e List.mem_cons_self)) (noStar fun x hx => ins x (List.mem_cons_of_mem _ hx)) (fun ρ S ds S' e' => (hlen ρ S ds S' e').trans hn)) (fun _ => rfl) (fun _ => rfl) (fun _ => rfl) rfl
        · rw [if_neg hn] at h; cases h
      · by_cases hfr : y ∈ G.frees
        · rw [if_pos hfr] at h
          have hm := g.frees y hfr
          split at h
          · rename_i fn h3
            split at h
            · rename_i xe
              cases h
              have hm2 := named_mem h3
              obtain ⟨e, rfl, he⟩ : ∃ e, args = [e] ∧ f e = some xe := by
                cases args with
                | nil => cases h1
                | cons e es =>
                  unfold cvL at h1
                  split at h1
                  · rename_i x' ys g1 g2
                    cases h1
                    cases es with
                    | nil => exact ⟨e, rfl, g1⟩
                    | cons e2 es2 =>
                      unfold cvL at g2
                      split at g2 <;> cases g2
                  · cases h1
              have ie := hf e xe he
              have hst := star1 (env := X.env) (es := []) ie.ns
              have fin : ∀ {T : Value} , bootBuiltins y = some T → PE X (.Call (.Name y p) [e] [] pos) (tE X.K C (.sq fn xe)) → Is X C (.Call (.Name y p) [e] [] pos) (.sq fn xe) := fun _ h => Is.of h (fun _ => rfl) (fun _ => rfl) (fun _ => rfl) rfl
              simp only [sqNames, List.mem_cons, Prod.mk.injEq, List.not_mem_nil, or_false] at hm2
              rcases hm2 with ⟨rfl, rfl⟩ | ⟨rfl, rfl⟩ | ⟨rfl, rfl⟩ | ⟨rfl, rfl⟩ | ⟨rfl, rfl⟩ | ⟨rfl, rfl⟩
              · exact fin (T := .type "tuple") (by decide +kernel) (s_sqTy tuple_ok hg hm (by decide +kernel) ie.q d3 d1 hst)
              · exact fin (T := .type "list") (by decide +kernel) (s_sqTy list_ok hg hm (by decide +kernel) ie.q d3 d1 hst)
              · exact fin (T := .builtin "all") (by decide +kernel) (s_sq (all_ok g.calm) hg hm (by decide +kernel) ie.q d3 d1 hst)
              · exact fin (T := .builtin "any") (by decide +kernel) (s_sq (any_ok g.calm) hg hm (by decide +kernel) ie.q d3 d1 hst)
              · exact fin (T := .builtin "sum") (by decide +kernel) (s_sq (sum_ok g.calm) hg hm (by decide +kernel) ie.q d3 d1 hst)
              · exact fin (T := .type "dict") (by decide +kernel) (s_sqTy (dict_ok g.calm) hg hm (by decide +kernel) ie.q d3 d1 hst)
            · cases h
          · split at h
            · rename_i fn e es h3
              cases h
              have hm2 := named_mem h3
              have s1 := star1 (env := X.env) (es := es) (ins e List.mem_cons_self)
              have s2 := noStar (env := X.env) (pos := pos) (es := es) fun x hx => ins x (List.mem_cons_of_mem _ hx)
              have fin : PE X (.Call (.Name y p) (e :: es) [] pos) (tE X.K C (.bi fn xs)) → Is X C (.Call (.Name y p) (e :: es) [] pos) (.bi fn xs) := fun h => Is.of h (fun _ => rfl) (fun _ => rfl) (fun _ => rfl) rfl
              simp only [biNames, List.mem_cons, Prod.mk.injEq, List.not_mem_nil, or_false] at hm2
              rcases hm2 with ⟨rfl, rfl⟩ | ⟨rfl, rfl⟩ | ⟨rfl, rfl⟩ | ⟨rfl, rfl⟩ | ⟨rfl, rfl⟩ | ⟨rfl, rfl⟩ | ⟨rfl, rfl⟩ | ⟨rfl, rfl⟩
              · exact fin (s_bi len_ok hg hm (by decide +kernel) ia d3 d1 s1 s2 fun _ => rfl)
              · exact fin (s_bi isi_ok hg hm (by decide +kernel) ia d3 d1 s1 s2 fun _ => rfl)
              · exact fin (s_bi (repr_ok g.guards g.un) hg hm (by decide +kernel) ia d3 d1 s1 s2 fun _ => rfl)
              · exact fin (s_bi abs_ok hg hm (by decide +kernel) ia d3 d1 s1 s2 fun _ => rfl)
              · exact fin (s_bi (min_ok g.calm) hg hm (by decide +kernel) ia d3 d1 s1 s2 fun _ => rfl)
              · exact fin (s_bi (max_ok g.calm) hg hm (by decide +kernel) ia d3 d1 s1 s2 fun _ => rfl)
              · exact fin (s_biTy int_ok hg hm (by decide +kernel) ia d3 d1 s1 s2 fun _ => rfl)
              · exact fin (s_biTy str_ok hg hm (by decide +kernel) ia d3 d1 s1 s2 fun _ => rfl)
            · cases h
        · rw [if_neg hfr] at h; cases h
    · cases h
  · rw [if_neg h0] at h; cases h
end
end Ev

end

section
set_option maxHeartbeats 1000000
/-! Ev12: methods, walks, comprehensions; all expressions. -/
namespace Ev
open PySem L2 PyProof.Rows

section
variable {G : Gs} {sc : Scope} {fnc : Str → Bool} {C : Ev.Ctx} {k : Nat} {X : Cx}
theorem base_ok {o : Expr} {m : Str} {env : PySem.Env} {w : Sem Value} (h : plainBase o = true) : attributeBase o m env w = w := by
  cases o <;> first | rfl | cases h
theorem metV_list {mn : String} {T : String} {x : Val} {vs : List Val} {S S' : Sto} {d : Val} (h : metV T mn x vs S = .ok d S') :
    (T = "list" ∧ mn = "append" ∧ metV T mn = appV) ∨ (T = "list" ∧ mn = "pop" ∧ metV T mn = popV) ∨ (T = "str" ∧ mn = "index" ∧ metV T mn = indexV) ∨ (T = "dict" ∧ mn = "get" ∧ metV T mn = getV) ∨ (T = "list" ∧ mn = "count" ∧ metV T mn = cntL) ∨ (T = "tuple" ∧ mn = "count" ∧ metV T mn = cntT) ∨ (T = "list" ∧ mn = "insert" ∧ metV T mn = insV) := by
  by_cases h0 : T = "list" ∧ mn = "append"
  · exact .inl ⟨h0.1, h0.2, by funext a b; unfold metV; rw [if_pos h0]⟩
  ·
    by_cases h1 : T = "list" ∧ mn = "pop"
    · exact .inr (.inl ⟨h1.1, h1.2, by funext a b; unfold metV; rw [if_neg h0, if_pos h1]⟩)
    ·
      by_cases h2 : T = "str" ∧ mn = "index"
      · exact .inr (.inr (.inl ⟨h2.1, h2.2, by funext a b; unfold metV; rw [if_neg h0, if_neg h1, if_pos h2]⟩))
      ·
        by_cases h3 : T = "dict" ∧ mn = "get"
        · exact .inr (.inr (.inr (.inl ⟨h3.1, h3.2, by funext a b; unfold metV; rw [if_neg h0, if_neg h1, if_neg h2, if_pos h3]⟩)))
        ·
          by_cases h4 : T = "list" ∧ mn = "count"
          · exact .inr (.inr (.inr (.inr (.inl ⟨h4.1, h4.2, by funext a b; unfold metV; rw [if_neg h0, if_neg h1, if_neg h2, if_neg h3, if_pos h4]⟩))))
          ·
            by_cases h5 : T = "tuple" ∧ mn = "count"
            · exact .inr (.inr (.inr (.inr (.inr (.inl ⟨h5.1, h5.2, by funext a b; unfold metV; rw [if_neg h0, if_neg h1, if_neg h2, if_neg h3, if_neg h4, if_pos h5]⟩)))))
            ·
              by_cases h6 : T = "list" ∧ mn = "insert"
              · exact .inr (.inr (.inr (.inr (.inr (.inr (⟨h6.1, h6.2, by funext a b; unfold metV; rw [if_neg h0, if_neg h1, if_neg h2, if_neg h3, if_neg h4, if_neg h5, if_pos h6]⟩))))))
              · unfold metV at h
                rw [if_neg h0, if_neg h1, if_neg h2, if_neg h3, if_neg h4, if_neg h5, if_neg h6] at h
                exact (ok_bad h).elim
theorem mt_same {m : Str} {mn : String} (h : (m, mn) ∈ mtNames) : m = Str.ofString mn := by
  simp only [mtNames, List.mem_cons, Prod.mk.injEq, List.not_mem_nil, or_false] at h
  rcases h with ⟨rfl, rfl⟩ | ⟨rfl, rfl⟩ | ⟨rfl, rfl⟩ | ⟨rfl, rfl⟩ | ⟨rfl, rfl⟩ | ⟨rfl, rfl⟩ <;> rfl
theorem few_ok {e : Expr} {es : List Expr} {cpos : Pos} {env : PySem.Env} (h : ∀ x ∈ e :: es, notStar x = true) (hl : (e :: es).length < 29) :
    ((backTo cpos (starEach (e :: es) env)).all (fun x => !x.1) && (backToKw cpos (keywordEach [] env)).all (fun x => x.1.isSome) && decide ((e :: es).length + ([] : List Keyword).length + (if ([] : List Keyword).isEmpty then 0 else 1) < 30)) = true := by
  rw [allStar h]
  simp only [Bool.true_and]
  rw [show (backToKw cpos (keywordEach [] env)).all (fun x => x.1.isSome) = true from rfl, Bool.true_and]
  apply decide_eq_true
  simp only [List.isEmpty_nil, if_true, List.length_nil]
  omega
theorem is_met (g : Good G sc fnc C k X) {f : Expr → Option Ex} (hf : ∀ e x, f e = some x → Is X C e x) {o : Expr} {m : Str} {apos pos : Pos} {args : List Expr} {x : Ex} (h : cvMet f o m apos pos args = some x) : Is X C (.Call (.Attribute o m apos) args [] pos) x := by
  unfold cvMet at h
  by_cases h0 : (plainBase o && (apos.endLine == pos.line) && decide (args.length < 29)) = true
  · rw [if_pos h0] at h
    rw [Bool.and_eq_true, Bool.and_eq_true] at h0
    obtain ⟨⟨hb, hl⟩, hlen⟩ := h0
    have hlen := of_decide_eq_true hlen
    have hbase := base_ok (m := m) (env := X.env) (w := eval o X.env) hb
    split at h
    · rename_i xo xs h1 h2
      have io := hf o xo h1
      obtain ⟨ia, ins⟩ := is_args hf h2
      by_cases hm : m = "extend"
      · rw [if_pos hm] at h
        subst hm
        split at h
        · rename_i xe
          cases h
          obtain ⟨e, rfl, he⟩ : ∃ e, args = [e] ∧ f e = some xe := by
            cases args with
            | nil => cases h2
            | cons e es =>
              unfold cvL at h2
              split at h2
              · rename_i x' ys g1 g2
                cases h2
                cases es with
                | nil => exact ⟨e, rfl, g1⟩
                | cons e2 es2 =>
                  unfold cvL at g2
                  split at g2 <;> cases g2
              · cases h2
          have ie := hf e xe he
          refine Is.of (s_ext io.v ie.q fun r hr => ?_) (fun _ => rfl) (fun _ => rfl) (fun _ => rfl) rfl
          exact pe_bm PySem.F.plainAttrs_list PySem.F.slot_list_extend PySem.F.type_list_extend hr io.v (paQ ie.q (star1 ie.ns)) hbase (few_ok ins hlen) hl (star1 ie.ns) rfl
        · cases h
      · rw [if_neg hm] at h
        cases h3 : named mtNames m with
        | none => rw [h3] at h; cases h
        | some mn =>
          rw [h3] at h
          cases h
          obtain rfl := mt_same (named_mem h3)
          cases args with
          | nil =>
            cases h2
            refine Is.of (s_met0 io.v fun T y S d S' e => ?_) (fun _ => rfl) (fun _ => rfl) (fun _ => rfl) rfl
            rcases metV_list e with ⟨rfl, hn, hv⟩ | ⟨rfl, hn, hv⟩ | ⟨rfl, hn, hv⟩ | ⟨rfl, hn, hv⟩ | ⟨rfl, hn, hv⟩ | ⟨rfl, hn, hv⟩ | ⟨rfl, hn, hv⟩
            · rw [hv] at e; unfold appV at e; split at e <;> first | cases e | (rename_i hh; cases hh)
            · rw [hv]
              subst hn
              exact ⟨.inl rfl, pe_bm0 PySem.F.plainAttrs_list PySem.F.slot_list_pop PySem.F.type_list_pop pop_okV io.v hbase hl⟩
            · rw [hv] at e; cases y <;> exact (ok_bad (S := S) e).elim
            · rw [hv] at e; unfold getV at e; split at e <;> first | cases e | (rename_i hh; cases hh)
            · rw [hv] at e; cases e
            · rw [hv] at e; cases e
            · rw [hv] at e; unfold insV at e; split at e <;> first | cases e | (rename_i hh; cases hh)
          | cons e0 es =>
            have s1 := star1 (env := X.env) (es := es) (ins e0 List.mem_cons_self)
            have s2 := noStar (env := X.env) (pos := pos) (es := es) fun x hx => ins x (List.mem_cons_of_mem _ hx)
            have few := few_ok (cpos := pos) (env := X.env) ins hlen
            refine Is.of (s_met io.v fun T y vs S d S' e => ?_) (fun _ => rfl) (fun _ => rfl) (fun _ => rfl) rfl
            rcases metV_list e with ⟨rfl, rfl, hv⟩ | ⟨rfl, rfl, hv⟩ | ⟨rfl, rfl, hv⟩ | ⟨rfl, rfl, hv⟩ | ⟨rfl, rfl, hv⟩ | ⟨rfl, rfl, hv⟩ | ⟨rfl, rfl, hv⟩ <;> rw [hv]
            · exact ⟨.inl rfl, pe_bf PySem.F.plainAttrs_list PySem.F.slot_list_append PySem.F.type_list_append app_okV io.v ia hbase few hl s1 s2⟩
            · exact ⟨.inl rfl, pe_bf PySem.F.plainAttrs_list PySem.F.slot_list_pop PySem.F.type_list_pop pop_okV io.v ia hbase few hl s1 s2⟩
            · exact ⟨.inr (.inl rfl), pe_bf PySem.F.plainAttrs_str PySem.F.slot_str_index PySem.F.type_str_index index_okV io.v ia hbase few hl s1 s2⟩
            · exact ⟨.inr (.inr (.inl rfl)), pe_bf PySem.F.plainAttrs_dict PySem.F.slot_dict_get PySem.F.type_dict_get (get_okV g.un) io.v ia hbase few hl s1 s2⟩
            · exact ⟨.inl rfl, pe_bf PySem.F.plainAttrs_list PySem.F.slot_list_count PySem.F.type_list_count (cntL_okV g.un) io.v ia hbase few hl s1 s2⟩
            · exact ⟨.inr (.inr (.inr rfl)), pe_bf PySem.F.plainAttrs_tuple PySem.F.slot_tuple_count PySem.F.type_tuple_count (cntT_okV g.un) io.v ia hbase few hl s1 s2⟩
            · exact ⟨.inl rfl, pe_bf PySem.F.plainAttrs_list PySem.F.slot_list_insert PySem.F.type_list_insert ins_okV io.v ia hbase few hl s1 s2⟩
    · cases h
  · rw [if_neg h0] at h; cases h

/-! ### walks, comprehensions -/
theorem noSet_ok {e : Expr} {env : PySem.Env} (h : notSet e = true) : ∀ x, foldedSetIterable e env x = pure x := by
  intro x
  cases e <;> first | rfl | cases h
theorem is_iter (g : Good G sc fnc C k X) {f : Expr → Option Ex} (hf : ∀ e x, f e = some x → Is X C e x) {tg iter : Expr} {it : Ev.It} (h : cvIt G sc f tg iter = some it) : PI X tg iter (tI X.K C (isTupE tg) it) ∧ notSet iter = true := by
  unfold cvIt at h
  by_cases h0 : notSet iter = true
  · rw [if_pos h0] at h
    refine ⟨?_, h0⟩
    have plain : ∀ e, (f e).map .seq = some it → PI X tg e (tI X.K C (isTupE tg) it) := by
      intro e he
      cases h1 : f e with
      | none => rw [h1] at he; cases he
      | some x =>
        rw [h1] at he
        cases he
        exact s_iter (hf e x h1).v
    split at h
    · rename_i y p args pos
      cases h1 : cvItC G sc f tg y args with
      | none =>
        rw [h1] at h
        exact plain _ h
      | some it' =>
        rw [h1] at h
        cases h
        unfold cvItC at h1
        by_cases hg0 : (isGl sc y && decide (y ∈ G.frees)) = true
        · rw [if_pos hg0] at h1
          rw [Bool.and_eq_true] at hg0
          have hg := g.gl hg0.1
          have hm := g.frees y (of_decide_eq_true hg0.2)
          by_cases hr : y = "range"
          · rw [if_pos hr] at h1
            subst hr
            split at h1
            · rename_i a
              cases ha : f a with
              | none => rw [ha] at h1; cases h1
              | some xa =>
                rw [ha] at h1
                cases h1
                exact s_rng1 hg hm (hf a xa ha).v (star1 (hf a xa ha).ns)
            · rename_i a b
              split at h1
              · rename_i xa xb ha hb
                cases h1
                have s2 := star1 (env := X.env) (es := []) (hf b xb hb).ns
                exact s_rng2 hg hm (hf a xa ha).v (hf b xb hb).v (by rw [star1 (hf a xa ha).ns, s2]; rfl) s2
              · cases h1
            · cases h1
          · rw [if_neg hr] at h1
            by_cases hz : y = "zip" ∧ isTupE tg = true
            · rw [if_pos hz] at h1
              obtain ⟨rfl, ht⟩ := hz
              split at h1
              · rename_i a b
                split at h1
                · rename_i xa xb ha hb
                  cases h1
                  cases tg with
                  | Tuple es kk tpos => exact s_zip hg hm (hf a xa ha).v (hf b xb hb).v (star1 (hf a xa ha).ns) (star1 (hf b xb hb).ns) (by rw [star1 (hf b xb hb).ns]; rfl)
                  | _ => cases ht
                · cases h1
              · cases h1
            · rw [if_neg hz] at h1
              by_cases he : y = "enumerate" ∧ isTupE tg = true
              · rw [if_pos he] at h1
                obtain ⟨rfl, ht⟩ := he
                split at h1
                · rename_i a
                  cases ha : f a with
                  | none => rw [ha] at h1; cases h1
                  | some xa =>
                    rw [ha] at h1
                    cases h1
                    cases tg with
                    | Tuple es kk tpos => exact s_enum hg hm (hf a xa ha).v (star1 (hf a xa ha).ns)
                    | _ => cases ht
                · cases h1
              · rw [if_neg he] at h1; cases h1
        · rw [if_neg hg0] at h1; cases h1
    · exact plain _ h
  · rw [if_neg h0] at h; cases h
/-- what is shown of a comprehension -/
theorem is_com (g : Good G sc fnc C k X) {f : Scope → Expr → Option Ex} (hf : ∀ sc fnc X, Good G sc fnc C k X → ∀ e x, f sc e = some x → Is X C e x) {elt : Expr} {gens : List Comprehension} {scope : Scope} {x : Ex} (h : cvCom G sc f elt gens scope = some x) :
    ∃ tg iter ifs t it xc xe, gens = [⟨tg, iter, ifs, 0⟩] ∧ x = .com ((ownOf G.N t).map (·.2)) t it xc xe ∧ BlkOk X.N X.env.scope scope (ownOf G.N t) ∧ (∀ i ∈ tgSlots t, i ∈ (ownOf G.N t).map (·.2)) ∧ PI X tg iter (tI X.K C (tgTup t) it) ∧ (∀ y, foldedSetIterable iter X.env y = pure y) ∧
      ∀ (s : Shared) (H : Hp) (D : Addr) (cl : List (Str × Addr)) (fp : List Addr), PG (X.blk s H scope (compEnvC scope cl D X.env) fp) tg (tG X.K C.scr t) ∧ PTs (X.blk s H scope (compEnvC scope cl D X.env) fp) ifs (tT X.K C xc) ∧ PE (X.blk s H scope (compEnvC scope cl D X.env) fp) elt (tE X.K C xe) := by
  unfold cvCom at h
  split at h
  · rename_i tg iter ifs
    split at h
    · rename_i t h1
      by_cases hb : (blkC G.N sc scope (ownOf G.N t) && (tgSlots t).all (fun i => decide (i ∈ (ownOf G.N t).map (·.2)))) = true
      · rw [if_pos hb] at h
        rw [Bool.and_eq_true] at hb
        split at h
        · rename_i it xc xe h2 h3 h4
          cases h
          obtain ⟨i1, i2⟩ := is_iter g (fun e x h => hf sc fnc X g e x h) h2
          rw [← tgTup_of h1] at i1
          refine ⟨tg, iter, ifs, t, it, xc, xe, rfl, rfl, by rw [g.N, g.sc]; exact blkOk_by hb.1, fun i hi => of_decide_eq_true (List.all_eq_true.mp hb.2 i hi), i1, noSet_ok i2, fun s H D cl fp => ?_⟩
          have g' := g.blk s H scope cl D fp
          refine ⟨is_tg g' 4 h1, ?_, (hf _ _ _ g' elt xe h4).v⟩
          unfold cvIfs at h3
          split at h3
          · cases h3; exact s_ptsNil
          · rename_i c; exact pts_one (hf _ _ _ g' c xc h3).t
          · cases h3
        · cases h
      · rw [if_neg hb] at h; cases h
    · cases h
  · cases h
theorem is_bool {f : Expr → Option Ex} (hf : ∀ e x, f e = some x → Is X C e x) {pos : Pos} : ∀ {vs : List Expr} {x : Ex}, cvB f .and vs = some x → PE X (.BoolOp .And vs pos) (tE X.K C x) ∧ PW X (.BoolOp .And vs pos) (tT X.K C x) ∧ PE X (.BoolOp .And vs pos) (tQ X.K C x)
  | [], _, h => by cases h
  | [a], x, h => by
    have i := hf a x h
    exact ⟨pe_one i.v, pw_and1 i.t, pe_one i.q⟩
  | a :: b :: r, x, h => by
    have h : cv2 .and (f a) (cvB f .and (b :: r)) = some x := h
    cases h1 : f a with
    | none => rw [h1] at h; cases h
    | some xa =>
      cases h2 : cvB f .and (b :: r) with
      | none => rw [h1, h2] at h; cases h
      | some xb =>
        rw [h1, h2] at h
        cases h
        have ia := hf a xa h1
        obtain ⟨j1, j2, j3⟩ := is_bool hf (pos := pos) h2
        have v := s_and ia.v j1
        exact ⟨v, s_andT ia.t j2, s_seq v fun _ => rfl⟩
theorem is_boolO {f : Expr → Option Ex} (hf : ∀ e x, f e = some x → Is X C e x) {pos : Pos} : ∀ {vs : List Expr} {x : Ex}, cvB f .or vs = some x → PE X (.BoolOp .Or vs pos) (tE X.K C x) ∧ PW X (.BoolOp .Or vs pos) (tT X.K C x) ∧ PE X (.BoolOp .Or vs pos) (tQ X.K C x)
  | [], _, h => by cases h
  | [a], x, h => by
    have i := hf a x h
    exact ⟨pe_one i.v, pw_or1 i.t, pe_one i.q⟩
  | a :: b :: r, x, h => by
    have h : cv2 .or (f a) (cvB f .or (b :: r)) = some x := h
    cases h1 : f a with
    | none => rw [h1] at h; cases h
    | some xa =>
      cases h2 : cvB f .or (b :: r) with
      | none => rw [h1, h2] at h; cases h
      | some xb =>
        rw [h1, h2] at h
        cases h
        have ia := hf a xa h1
        obtain ⟨j1, j2, j3⟩ := is_boolO hf (pos := pos) h2
        have v := s_or ia.v j1
        exact ⟨v, s_orT ia.t j2, s_seq v fun _ => rfl⟩
theorem cv2_some {mk : Ex → Ex → Ex} {a b : Option Ex} {x : Ex} (h : cv2 mk a b = some x) : ∃ y z, a = some y ∧ b = some z ∧ x = mk y z := by
  cases a <;> cases b <;> first | (cases h; exact ⟨_, _, rfl, rfl, rfl⟩) | cases h
theorem cv1_some {mk : Ex → Ex} {a : Option Ex} {x : Ex} (h : cv1 mk a = some x) : ∃ y, a = some y ∧ x = mk y := by
  cases a <;> first | (cases h; exact ⟨_, rfl, rfl⟩) | cases h
theorem cv3_some {mk : Ex → Ex → Ex → Ex} {a b c : Option Ex} {x : Ex} (h : cv3 mk a b c = some x) : ∃ y z w, a = some y ∧ b = some z ∧ c = some w ∧ x = mk y z w := by
  cases a <;> cases b <;> cases c <;> first | (cases h; exact ⟨_, _, _, rfl, rfl, rfl, rfl⟩) | cases h
theorem mark_ok {op : CmpOp} {b : Expr} (h : notSet b = true) : behindInMarks op b = false := by
  cases b <;> first | rfl | cases h
theorem plain_ix {b : Expr} (h : ∀ lo hi p, b ≠ .Slice lo hi none p) : PlainIx b := by
  intro o i
  cases b with
  | Slice lo hi st p =>
    cases st with
    | none => exact absurd rfl (h lo hi p)
    | some _ => rfl
  | _ => rfl
theorem is_end {f : Expr → Option Ex} (hf : ∀ e x, f e = some x → Is X C e x) {o : Option Expr} {x : Ex} (h : cvEnd f o = some x) : ∃ tl, PO X o tl ∧
    ∀ (L : List Addr) (S : Sto) (ρ : Ev.Env) (σ : L2.St) (H : Hp) (d : Val) (S' : Sto) (lo : Option Int) (Q : Option Int → Hp → Prop), Sim X.K C.scr L S H → EnvR X.K C.scr L H ρ σ → evE C x ρ S = .ok d S' → endOf (isNon x) d = some lo → (∀ L' H', Sim X.K C.scr L' S' H' → Ext L H L' H' → Q lo H') → tl σ H Q := by
  cases o with
  | none =>
    cases h
    exact ⟨tNoPart, po_none, s_part po_none (.inl ⟨rfl, rfl⟩) fun _ σ H Q q => q⟩
  | some e =>
    have h : (match f e with | some x => if isNon x then none else some x | none => none) = some x := h
    cases h1 : f e with
    | none => rw [h1] at h; cases h
    | some y =>
      rw [h1] at h
      dsimp only at h
      by_cases hn : isNon y = true
      · rw [if_pos hn] at h; cases h
      · rw [if_neg hn] at h
        cases h
        have i := hf e x h1
        exact ⟨tPart (tE X.K C x), po_some i.v, s_part (po_some i.v) (.inr ⟨by simpa using hn, fun σ H Q q => q⟩) fun z => by cases z⟩
theorem is_sub (g : Good G sc fnc C k X) {f : Expr → Option Ex} (hf : ∀ e x, f e = some x → Is X C e x) {a s : Expr} {x : Ex} {pos : Pos} (h : cvSub f a s = some x) : Is X C (.Subscript a s pos) x := by
  unfold cvSub at h
  split at h
  · rename_i lo hi st p
    split at h
    · obtain ⟨xa, xl, xh, h1, h2, h3, rfl⟩ := cv3_some h
      obtain ⟨tl, l1, l2⟩ := is_end hf h2
      obtain ⟨th, k1, k2⟩ := is_end hf h3
      exact Is.of (s_sli (hf a xa h1).v l1 k1 l2 k2) (fun _ => rfl) (fun _ => rfl) (fun _ => rfl) rfl
    · split at h
      · obtain ⟨xa, h1, rfl⟩ := cv1_some h
        exact Is.of (s_rev (hf a xa h1).q) (fun _ => rfl) (fun _ => rfl) (fun _ => rfl) rfl
      · cases h
    · cases h
  · rename_i hns
    obtain ⟨xa, xi, h1, h2, rfl⟩ := cv2_some h
    exact Is.of (s_idx g.un (hf a xa h1).v (hf _ xi h2).v (plain_ix fun lo hi p z => hns lo hi none p z)) (fun _ => rfl) (fun _ => rfl) (fun _ => rfl) rfl
theorem is_cmp (g : Good G sc fnc C k X) {f : Expr → Option Ex} (hf : ∀ e x, f e = some x → Is X C e x) {a : Expr} {ops : List CmpOp} {bs : List Expr} {x : Ex} {pos : Pos} (h : cvCmp f a ops bs = some x) : Is X C (.Compare a ops bs pos) x := by
  unfold cvCmp at h
  split at h
  · rename_i op b
    by_cases hn : notSet b = true
    · rw [if_pos hn] at h
      obtain ⟨xa, xb, h1, h2, rfl⟩ := cv2_some h
      have v := s_cmp (pos := pos) (op := op) g.un (hf a xa h1).v (hf b xb h2).v (mark_ok hn)
      exact ⟨v, s_cmpT g.un (hf a xa h1).v (hf b xb h2).v (mark_ok hn), s_seq v fun _ => rfl, rfl⟩
    · rw [if_neg hn] at h; cases h
  · rename_i op op' b c
    by_cases hn : notSet c = true
    · rw [if_pos hn] at h
      obtain ⟨xa, xb, xc, h1, h2, h3, rfl⟩ := cv3_some h
      have va := (hf a xa h1).v
      have vb := (hf b xb h2).v
      have vc := (hf c xc h3).v
      have hm : lastMarks [op, op'] [b, c] = false := mark_ok hn
      have v := PE.imp (pe_chain (pos := pos) (cmp_ok (scr := C.scr) g.un op) (cmp_ok (scr := C.scr) g.un op') va vb vc hm) (chn_read (K := X.K))
      exact ⟨v, PT.imp (pt_chain (pos := pos) (cmp_ok (scr := C.scr) g.un op) (cmp_ok (scr := C.scr) g.un op') va vb vc hm) (chn_readT (K := X.K)), s_seq v fun _ => rfl, rfl⟩
    · rw [if_neg hn] at h; cases h
  · cases h
theorem is_const {c : Const} {j : Nat} {pos : Pos} {x : Ex} (h : cvConst c = some x) : Is X C (.Constant c j pos) x := by
  cases c <;> first
    | (cases h; exact Is.of s_int (fun _ => rfl) (fun _ => rfl) (fun _ => rfl) rfl)
    | (cases h; exact Is.of s_bl (fun _ => rfl) (fun _ => rfl) (fun _ => rfl) rfl)
    | (cases h; exact Is.of s_non (fun _ => rfl) (fun _ => rfl) (fun _ => rfl) rfl)
    | (cases h; exact Is.of s_str (fun _ => rfl) (fun _ => rfl) (fun _ => rfl) rfl)
    | cases h
theorem is_name (g : Good G sc fnc C k X) {y : Str} {pos : Pos} {x : Ex} (h : cvName G sc y = some x) : Is X C (.Name y pos) x := by
  unfold cvName at h
  by_cases h0 : okName y = true
  · rw [if_pos h0] at h
    obtain ⟨d1, d2, d3⟩ := ok_dbg h0
    split at h
    · rename_i i h1
      cases h
      obtain ⟨v1, v2⟩ := g.var h1
      exact Is.of (s_var v1 v2 d1 d2) (fun _ => rfl) (fun _ => rfl) (fun _ => rfl) rfl
    · by_cases hg0 : isGl sc y = true
      · rw [if_pos hg0] at h
        have hg := g.gl hg0
        by_cases h1 : y ∈ G.glos
        · rw [if_pos h1] at h
          cases h
          obtain ⟨d, v, u, m1, m2, m3, m4⟩ := g.glos y h1
          exact Is.of (s_glo hg m1 m2 d1 m3 m4) (fun _ => rfl) (fun _ => rfl) (fun _ => rfl) rfl
        · rw [if_neg h1] at h
          by_cases h2 : y ∈ G.frees
          · rw [if_pos h2] at h
            obtain ⟨z, h3, rfl⟩ := cv1_some h
            cases h4 : tyNamed y with
            | none => rw [h4] at h3; cases h3
            | some n =>
              rw [h4] at h3
              cases h3
              have hm := g.frees y h2
              have hm2 : (y, n) ∈ tyNames := named_mem h4
              have fin : bootBuiltins y = some (.type n) → Is X C (.Name y pos) (id (.ty n)) := fun hb => Is.of (s_ty hg hm hb d3 d1) (fun _ => rfl) (fun _ => rfl) (fun _ => rfl) rfl
              simp only [tyNames, List.mem_cons, Prod.mk.injEq, List.not_mem_nil, or_false] at hm2
              rcases hm2 with ⟨rfl, rfl⟩ | ⟨rfl, rfl⟩ | ⟨rfl, rfl⟩ | ⟨rfl, rfl⟩ | ⟨rfl, rfl⟩ | ⟨rfl, rfl⟩ <;> exact fin (by decide +kernel)
          · rw [if_neg h2] at h; cases h
      · rw [if_neg hg0] at h; cases h
  · rw [if_neg h0] at h; cases h
theorem big_ok {n : Nat} (h : n ≤ 100000) : n ≤ sizeLine := Nat.le_trans h (by decide)

/-- every expression that was turned -/
theorem is_expr : ∀ (n : Nat) (sc : Scope) (fnc : Str → Bool) (X : Cx), Good G sc fnc C k X → ∀ (e : Expr) (x : Ex), cvE G n sc e = some x → Is X C e x := by
  intro n
  induction n with
  | zero => intro sc fnc X g e x h; cases h
  | succ n ih =>
    intro sc fnc X g e x h
    have hf : ∀ e x, cvE G n sc e = some x → Is X C e x := fun e x h => ih sc fnc X g e x h
    cases e with
    | Constant c j pos => exact is_const h
    | Name y pos => exact is_name g h
    | BinOp a op b pos =>
      obtain ⟨xa, xb, h1, h2, rfl⟩ := cv2_some (show cv2 (.bin op) (cvE G n sc a) (cvE G n sc b) = some x from h)
      exact Is.of (s_bin (hf a xa h1).v (hf b xb h2).v) (fun _ => rfl) (fun _ => rfl) (fun _ => rfl) rfl
    | UnaryOp op a pos =>
      cases op with
      | USub =>
        obtain ⟨xa, h1, rfl⟩ := cv1_some (show cv1 .neg (cvE G n sc a) = some x from h)
        exact Is.of (s_neg (hf a xa h1).v) (fun _ => rfl) (fun _ => rfl) (fun _ => rfl) rfl
      | Not =>
        obtain ⟨xa, h1, rfl⟩ := cv1_some (show cv1 .not (cvE G n sc a) = some x from h)
        have v := s_not (pos := pos) (hf a xa h1).v
        exact ⟨v, s_notT (hf a xa h1).t, s_seq v fun _ => rfl, rfl⟩
      | _ => cases h
    | BoolOp op vs pos =>
      cases op with
      | And =>
        obtain ⟨j1, j2, j3⟩ := is_bool hf (pos := pos) (show cvB (cvE G n sc) .and vs = some x from h)
        exact ⟨j1, j2.pt, j3, rfl⟩
      | Or =>
        obtain ⟨j1, j2, j3⟩ := is_boolO hf (pos := pos) (show cvB (cvE G n sc) .or vs = some x from h)
        exact ⟨j1, j2.pt, j3, rfl⟩
    | IfExp c a b pos =>
      obtain ⟨xc, xa, xb, h1, h2, h3, rfl⟩ := cv3_some (show cv3 .ite (cvE G n sc c) (cvE G n sc a) (cvE G n sc b) = some x from h)
      have v := s_ite (pos := pos) (hf c xc h1).t (hf a xa h2).v (hf b xb h3).v
      exact ⟨v, s_iteT (hf c xc h1).t (hf a xa h2).t (hf b xb h3).t, s_seq v fun _ => rfl, rfl⟩
    | Compare a ops bs pos => exact is_cmp g hf h
    | Tuple es j pos =>
      have h : (if es.length ≤ 100000 then (cvL (cvE G n sc) es).map .tup else none) = some x := h
      by_cases hl : es.length ≤ 100000
      · rw [if_pos hl] at h
        cases h1 : cvL (cvE G n sc) es with
        | none => rw [h1] at h; cases h
        | some xs =>
          rw [h1] at h
          cases h
          exact Is.of (s_tup (is_args hf h1).1 (big_ok hl) fun ρ S ds S' e => cvL_len h1 C ρ S ds S' e) (fun _ => rfl) (fun _ => rfl) (fun _ => rfl) rfl
      · rw [if_neg hl] at h; cases h
    | List es pos =>
      have h : (if es.length ≤ 100000 then (cvL (cvE G n sc) es).map .lst else none) = some x := h
      by_cases hl : es.length ≤ 100000
      · rw [if_pos hl] at h
        cases h1 : cvL (cvE G n sc) es with
        | none => rw [h1] at h; cases h
        | some xs =>
          rw [h1] at h
          cases h
          have v := s_lst (pos := pos) (is_args hf h1).1 (big_ok hl) fun ρ S ds S' e => cvL_len h1 C ρ S ds S' e
          exact ⟨v, s_truth v (fun _ => rfl) (fun _ => rfl), s_lstQ (is_args hf h1).1 (big_ok hl) fun ρ S ds S' e => cvL_len h1 C ρ S ds S' e, rfl⟩
      · rw [if_neg hl] at h; cases h
    | Dict ks vs pos =>
      cases ks with
      | nil =>
        cases vs with
        | nil =>
          cases h
          exact Is.of s_dic (fun _ => rfl) (fun _ => rfl) (fun _ => rfl) rfl
        | cons _ _ => cases h
      | cons _ _ => cases h
    | Subscript a s pos => exact is_sub g hf h
    | Call fe args kws pos =>
      cases kws with
      | nil =>
        cases fe with
        | Name y p => exact is_call g hf h
        | Attribute o m apos => exact is_met g hf h
        | _ => cases h
      | cons _ _ => cases h
    | ListComp elt gens scope pos =>
      obtain ⟨tg, iter, ifs, t, it, xc, xe, rfl, rfl, hb, hsl, hi, hs, hx⟩ := is_com g (fun sc fnc X g e x h => ih sc fnc X g e x h) (show cvCom G sc (cvE G n) elt gens scope = some x from h)
      have rule := pe_lc (pos := pos) g.calm (by rw [g.N]; exact g.nd) hi hb (fun s H D cl fp => (hx s H D cl fp).1) (fun s H D cl fp => (hx s H D cl fp).2.1) (fun s H D cl fp => (hx s H D cl fp).2.2) hs
      have v := PE.imp rule (com_val hsl)
      exact ⟨v, s_truth v (fun _ => rfl) (fun _ => rfl), PE.imp rule (com_seq hsl), rfl⟩
    | _ => cases h
end
end Ev

end

section
set_option maxHeartbeats 1000000
/-! Ev13: statements, turned. -/
namespace Ev
open PySem L2 PyProof.Rows

def blkK (sc : Scope) : ScopeKind := if sc.kind.isAnnotationScope then .function else sc.kind
/-- what swappedStores answers, by the scope alone; none: not covered -/
def swp (sc : Scope) (ts vs : List Expr) : Option (Option (List Str)) :=
  if (!(ts.length == 2 || ts.length == 3) || vs.length != ts.length || blkK sc != .function) = true then some none else
  if (vs.any fun | .Starred .. => true | _ => false) = true then some none else
  let names := ts.filterMap fun
    | .Name id pos => if (sc.names.lookup id == some .local && pos.line == (ts.head?.map (·.pos.line)).getD 0) = true then some id else none
    | _ => none
  if (names.length != ts.length || names.eraseDups.length != names.length) = true then some none else
  if (vs.all (foldedForSure 8)) = true then some none else
  if (vs.all (constantsAlone 8)) = true then none else some (some names)
theorem swp_ok {sc : Scope} {ts vs : List Expr} {r : Option (List Str)} {env : PySem.Env} {k k2 : Nat} {p p2 : Pos} (he : env.scope = sc) (h : swp sc ts vs = some r) : swappedStores [.Tuple ts k p] (.Tuple vs k2 p2) env = pure r := by
  subst he
  unfold swp at h
  unfold swappedStores
  dsimp only
  split at h
  · rename_i h1
    refine (if_pos h1).trans ?_
    cases h; rfl
  · rename_i h1
    refine (if_neg h1).trans ?_
    split at h
    · rename_i h2
      refine (if_pos h2).trans ?_
      cases h; rfl
    · rename_i h2
      refine (if_neg h2).trans ?_
      dsimp only at h
      split at h
      · rename_i h3
        refine (if_pos h3).trans ?_
        cases h; rfl
      · rename_i h3
        refine (if_neg h3).trans ?_
        split at h
        · rename_i h4
          refine (if_pos h4).trans ?_
          cases h; rfl
        · rename_i h4
          refine (if_neg h4).trans ?_
          split at h
          · cases h
          · rename_i h5
            refine (if_neg h5).trans ?_
            cases h; rfl
/-- what swapsWith answers of a list comprehension to a name -/
def swl (sc scope : Scope) (y : Str) (py pos : Pos) : Bool :=
  (blkK sc == .function) && (sc.names.lookup y == some .local) && (py.line == pos.line) && !(scope.names.any fun (n, k) => n == y && (k == .local || k == .cell))
theorem swl_ok {sc scope : Scope} {y : Str} {py pos : Pos} {env : PySem.Env} {elt : Expr} {gs : List Comprehension} {l : Nat} (he : env.scope = sc) : swapsWith (.ListComp elt gs scope pos) (some (.Name y py)) l env = pure (swl sc scope y py pos) := by
  subst he; rfl
theorem notComp_sw {e : Expr} {t : Option Expr} {l : Nat} {env : PySem.Env} (h : notComp e = true) : swapsWith e t l env = pure false := by
  cases e <;> first | rfl | cases h
theorem notComp_sole {tg e : Expr} {l : Nat} {env : PySem.Env} (h : notComp e = true) : swapsWithSole [tg] e l env = pure false := notComp_sw h
def notTup : Expr → Bool
  | .Tuple .. => false
  | _ => true
theorem notTup_sw {tg e : Expr} {env : PySem.Env} (h : notTup e = true) : swappedStores [tg] e env = pure none := by
  cases e <;> first | (cases tg <;> rfl) | cases h
theorem subs_sw {o i e : Expr} {p : Pos} {env : PySem.Env} : swappedStores [.Subscript o i p] e env = pure none := by
  cases e <;> rfl

/-! ### the turning -/
def lcOf : Expr → Option (Expr × List Comprehension × Scope × Pos)
  | .ListComp elt gens scope pos => some (elt, gens, scope, pos)
  | _ => none
def cvPar (G : Gs) (sc : Scope) (f : Expr → Option Ex) (ts vs : List Expr) (names : List Str) : Option Sx := match ts, vs with
  | [.Name x _, .Name y _], [a, b] => if names = [x, y] ∧ sc.names.lookup x = some .local ∧ sc.names.lookup y = some .local then
      (match ix G.N x, ix G.N y, cvL f [a, b] with
        | some i, some j, some xs => if i ≠ j then some (.set (.tup (.cons (.nam i) (.cons (.nam j) .nil))) (.tup xs)) else none
        | _, _, _ => none)
    else none
  | [.Name x _, .Name y _, .Name z _], [a, b, c] => if names = [x, y, z] ∧ sc.names.lookup x = some .local ∧ sc.names.lookup y = some .local ∧ sc.names.lookup z = some .local then
      (match ix G.N x, ix G.N y, ix G.N z, cvL f [a, b, c] with
        | some i, some j, some l, some xs => if i ≠ j ∧ i ≠ l ∧ j ≠ l then some (.set (.tup (.cons (.nam i) (.cons (.nam j) (.cons (.nam l) .nil)))) (.tup xs)) else none
        | _, _, _, _ => none)
    else none
  | _, _ => none
def cvAsg (G : Gs) (sc : Scope) (fnc : Str → Bool) (f : Expr → Option Ex) (tg e : Expr) : Option Sx := match tg with
  | .Name y py => (match cvTgN G sc fnc y, f e with
    | some i, some x => (match lcOf e with
      | some (_, _, scope, pos) => if swl sc scope y py pos = false ∨ sc.names.lookup y = some .local then some (.set (.nam i) x) else none
      | none => if notComp e then some (.set (.nam i) x) else none)
    | _, _ => none)
  | .Tuple ts k p => (match e with
    | .Tuple vs _ _ => (match swp sc ts vs with
      | some none => (match cvTg G sc fnc 4 (.Tuple ts k p), f e with
        | some t, some x => some (.set t x)
        | _, _ => none)
      | some (some names) => cvPar G sc f ts vs names
      | none => none)
    | e => if notComp e && notTup e then (match cvTg G sc fnc 4 (.Tuple ts k p), f e with
        | some t, some x => some (.set t x)
        | _, _ => none) else none)
  | .Subscript o i _ => if notComp e && notSlice i then (match f o, f i, f e with
      | some xo, some xi, some x => some (.sub xo xi x)
      | _, _, _ => none) else none
  | _ => none
def cvAug (G : Gs) (sc : Scope) (fnc : Str → Bool) (f : Expr → Option Ex) (tg : Expr) (op : Operator) (e : Expr) : Option Sx := match tg with
  | .Name y _ => (match cvTgN G sc fnc y, f e with
    | some i, some x => some (.aug i op x)
    | _, _ => none)
  | .Subscript o i _ => if notSlice i then (match f o, f i, f e with
      | some xo, some xi, some x => some (.augs xo xi op x)
      | _, _, _ => none) else none
  | _ => none
def cvSs (f : Stmt → Option Sx) : List Stmt → Option Sxs
  | [] => some .nil
  | s :: ss => match f s, cvSs f ss with
    | some x, some xs => some (.cons x xs)
    | _, _ => none
/-- how deep expressions are turned -/
def exFuel : Nat := 40
def cvS (G : Gs) (sc : Scope) (fnc : Str → Bool) : Nat → Stmt → Option Sx
  | 0, _ => none
  | n + 1, s => match s with
    | .Expr e _ => if notComp e then (cvE G exFuel sc e).map .expr else none
    | .Return (some e) _ => (cvE G exFuel sc e).map .ret
    | .Return none _ => some (.ret .non)
    | .If c a b _ => (match cvE G exFuel sc c, cvSs (cvS G sc fnc n) a, cvSs (cvS G sc fnc n) b with
      | some xc, some xa, some xb => some (.ifs xc xa xb)
      | _, _, _ => none)
    | .Assign ts e _ => (match ts with
      | [tg] => cvAsg G sc fnc (cvE G exFuel sc) tg e
      | _ => none)
    | .AugAssign tg op e _ => cvAug G sc fnc (cvE G exFuel sc) tg op e
    | .For tg iter b els _ => (match els with
      | [] => (match cvTg G sc fnc 4 tg, cvIt G sc (cvE G exFuel sc) tg iter, cvSs (cvS G sc fnc n) b with
        | some t, some it, some xb => some (.for_ t it xb)
        | _, _, _ => none)
      | _ => none)
    | .While c b els _ => (match els with
      | [] => (match cvE G exFuel sc c, cvSs (cvS G sc fnc n) b with
        | some xc, some xb => some (.whl xc xb)
        | _, _ => none)
      | _ => none)
    | .Pass _ => some .pass
    | .Break _ => some .brk
    | .Continue _ => some .cnt
    | _ => none

section
variable {G : Gs} {sc : Scope} {fnc : Str → Bool} {C : Ev.Ctx} {k : Nat} {X : Cx}
theorem is_ss {f : Stmt → Option Sx} (hf : ∀ s x, f s = some x → PS X s (tS X.K C x)) : ∀ {ss : List Stmt} {xs : Sxs}, cvSs f ss = some xs → PSs X ss (tSs X.K C xs)
  | [], xs, h => by cases h; exact s_ssNil
  | s :: ss, xs, h => by
    unfold cvSs at h
    split at h
    · rename_i x ys h1 h2
      cases h
      exact s_ssCons (hf s x h1) (is_ss hf h2)
    · cases h
theorem tgN_ok (g : Good G sc fnc C k X) {y : Str} {i : Nat} (h1 : cvTgN G sc fnc y = some i) : X.N[i]? = some y ∧ Loc X.env.scope y ∧ (X.fn y = true ∨ X.env.scope.names.lookup y = some .local) := by
  unfold cvTgN at h1
  split at h1
  · rename_i e1
    exact ⟨by rw [g.N]; exact ix_get h1, by rw [g.sc]; exact .inl e1, by rw [g.sc]; exact .inr e1⟩
  · rename_i e1
    by_cases hf : fnc y = true
    · rw [if_pos hf] at h1
      exact ⟨by rw [g.N]; exact ix_get h1, by rw [g.sc]; exact .inr e1, by rw [g.fn]; exact .inl hf⟩
    · rw [if_neg hf] at h1; cases h1
  · cases h1
theorem set_nam {n : Nat} {v : V} {σ : L2.St} {H : Hp} {Q : L2.St → Hp → Prop} {K : PySem.W.Frag} {scr : List Int} (h : tG K scr (.nam n) v σ H Q) : gName n v σ H Q := by
  obtain ⟨L, S, ρ, d, ρ', sm, er, rd, e, q⟩ := h
  have e : (if n < ρ.length then some (ρ.set n (some d)) else none) = some ρ' := e
  by_cases hz : n < ρ.length
  · rw [if_pos hz] at e
    cases e
    exact q _ (er.set n (RepB.rep rd)) fun vs hv => wipe_set (hv n (by simp [tgSlots]))
  · rw [if_neg hz] at e; cases e
theorem par_len {xs : List Val} {f : Expr → Option Ex} {es : List Expr} {ys : Exs} (h : cvL f es = some ys) {ρ : Ev.Env} {S S' : Sto} (e : evEs C ys ρ S = .ok xs S') : xs.length = es.length := cvL_len h C ρ S xs S' e
theorem is_par (g : Good G sc fnc C k X) {f : Expr → Option Ex} (hf : ∀ e x, f e = some x → Is X C e x) {ts vs : List Expr} {names : List Str} {x : Sx} {kt k2 : Nat} {pt p2 pos : Pos} (hs : swp sc ts vs = some (some names)) (h : cvPar G sc f ts vs names = some x) :
    PS X (.Assign [.Tuple ts kt pt] (.Tuple vs k2 p2) pos) (tS X.K C x) := by
  have hw := swp_ok (k := kt) (k2 := k2) (p := pt) (p2 := p2) g.sc hs
  unfold cvPar at h
  split at h
  · rename_i x' px y py a b
    split at h
    · rename_i hc
      obtain ⟨rfl, l1, l2⟩ := hc
      split at h
      · rename_i i j xs h1 h2 h3
        by_cases hij : i ≠ j
        · rw [if_pos hij] at h
          cases h
          refine PS.imp (ps_par g.calm (by rw [g.N]; exact g.nd) (by rw [g.N]; exact ix_get h1) (by rw [g.N]; exact ix_get h2) hij (by rw [g.sc]; exact l1) (by rw [g.sc]; exact l2) (is_args hf h3).1 hw rfl) fun D σ H ⟨L, S, ρ, fl, S', sm, er, e, q⟩ => ?_
          have e : ((evEs C xs ρ >>= fun ds => pure (.tup ds)) >>= fun v => opt (asg (.tup (.cons (.nam i) (.cons (.nam j) .nil))) v ρ) >>= fun ρ' => (pure (.nx ρ') : M Flo)) S = .ok fl S' := e
          obtain ⟨v, S1, e1, e2⟩ := ok_bind e
          obtain ⟨ds, S0, e0, e1⟩ := ok_bind e1
          obtain ⟨z1, z2⟩ := ok_pure e1
          obtain ⟨ρ', S2, e3, e4⟩ := ok_bind e2
          obtain ⟨h5, z3⟩ := opt_some e3
          obtain ⟨z4, z5⟩ := ok_pure e4
          subst z1 z2 z3 z4 z5
          have hl := par_len h3 e0
          obtain ⟨d1, d2, rfl⟩ : ∃ d1 d2, ds = [d1, d2] := by
            match ds, hl with
            | [d1, d2], _ => exact ⟨d1, d2, rfl⟩
          refine ⟨L, S, ρ, [d1, d2], _, sm, er, e0, fun ws L1 H1 s1 x1 r1 => ?_⟩
          have r1 : ∃ v r, ws = v :: r ∧ Rep X.K C.scr L1 H1 d1 v ∧ RepL X.K C.scr L1 H1 [d2] r := by unfold RepL at r1; exact r1
          obtain ⟨w1, t1, rfl, q1', r2⟩ := r1
          have r2 : ∃ v r, t1 = v :: r ∧ Rep X.K C.scr L1 H1 d2 v ∧ RepL X.K C.scr L1 H1 [] r := by unfold RepL at r2; exact r2
          obtain ⟨w2, t2, rfl, q2', r3⟩ := r2
          have r3 : t2 = [] := by unfold RepL at r3; exact r3
          subst r3
          refine ⟨_, _, rfl, ?_⟩
          have h5 : (match (if i < ρ.length then some (ρ.set i (some d1)) else none) with | some ρ1 => (match (if j < ρ1.length then some (ρ1.set j (some d2)) else none) with | some ρ2 => some ρ2 | none => none) | none => none) = some ρ' := h5
          split at h5
          · rename_i ρ1 q1
            split at h5
            · rename_i ρ2 q2
              cases h5
              split at q1
              · cases q1
                split at q2
                · cases q2
                  exact q _ L1 H1 s1 x1 (((er.mono x1).set i q1').set j q2')
                · cases q2
              · cases q1
            · cases h5
          · cases h5
        · rw [if_neg hij] at h; cases h
      · cases h
    · cases h
  · rename_i x' px y py z pz a b c
    split at h
    · rename_i hc
      obtain ⟨rfl, l1, l2, l3⟩ := hc
      split at h
      · rename_i i j l xs h1 h2 h2' h3
        by_cases hij : i ≠ j ∧ i ≠ l ∧ j ≠ l
        · rw [if_pos hij] at h
          cases h
          refine PS.imp (ps_par3 g.calm (by rw [g.N]; exact g.nd) (by rw [g.N]; exact ix_get h1) (by rw [g.N]; exact ix_get h2) (by rw [g.N]; exact ix_get h2') hij.1 hij.2.1 hij.2.2 (by rw [g.sc]; exact l1) (by rw [g.sc]; exact l2) (by rw [g.sc]; exact l3) (is_args hf h3).1 hw rfl) fun D σ H ⟨L, S, ρ, fl, S', sm, er, e, q⟩ => ?_
          have e : ((evEs C xs ρ >>= fun ds => pure (.tup ds)) >>= fun v => opt (asg (.tup (.cons (.nam i) (.cons (.nam j) (.cons (.nam l) .nil)))) v ρ) >>= fun ρ' => (pure (.nx ρ') : M Flo)) S = .ok fl S' := e
          obtain ⟨v, S1, e1, e2⟩ := ok_bind e
          obtain ⟨ds, S0, e0, e1⟩ := ok_bind e1
          obtain ⟨z1, z2⟩ := ok_pure e1
          obtain ⟨ρ', S2, e3, e4⟩ := ok_bind e2
          obtain ⟨h5, z3⟩ := opt_some e3
          obtain ⟨z4, z5⟩ := ok_pure e4
          subst z1 z2 z3 z4 z5
          have hl := par_len h3 e0
          obtain ⟨d1, d2, d3, rfl⟩ : ∃ d1 d2 d3, ds = [d1, d2, d3] := by
            match ds, hl with
            | [d1, d2, d3], _ => exact ⟨d1, d2, d3, rfl⟩
          refine ⟨L, S, ρ, [d1, d2, d3], _, sm, er, e0, fun ws L1 H1 s1 x1 r1 => ?_⟩
          have r1 : ∃ v r, ws = v :: r ∧ Rep X.K C.scr L1 H1 d1 v ∧ RepL X.K C.scr L1 H1 [d2, d3] r := by unfold RepL at r1; exact r1
          obtain ⟨w1, t1, rfl, q1', r2⟩ := r1
          have r2 : ∃ v r, t1 = v :: r ∧ Rep X.K C.scr L1 H1 d2 v ∧ RepL X.K C.scr L1 H1 [d3] r := by unfold RepL at r2; exact r2
          obtain ⟨w2, t2, rfl, q2', r3⟩ := r2
          have r3 : ∃ v r, t2 = v :: r ∧ Rep X.K C.scr L1 H1 d3 v ∧ RepL X.K C.scr L1 H1 [] r := by unfold RepL at r3; exact r3
          obtain ⟨w3, t3, rfl, q3', r4⟩ := r3
          have r4 : t3 = [] := by unfold RepL at r4; exact r4
          subst r4
          refine ⟨_, _, _, rfl, ?_⟩
          have h5 : (match (if i < ρ.length then some (ρ.set i (some d1)) else none) with | some ρ1 => (match (if j < ρ1.length then some (ρ1.set j (some d2)) else none) with | some ρ2 => (match (if l < ρ2.length then some (ρ2.set l (some d3)) else none) with | some ρ3 => some ρ3 | none => none) | none => none) | none => none) = some ρ' := h5
          split at h5
          · rename_i ρ1 q1
            split at h5
            · rename_i ρ2 q2
              split at h5
              · rename_i ρ3 q3
                cases h5
                split at q1
                · cases q1
                  split at q2
                  · cases q2
                    split at q3
                    · cases q3
                      exact q _ L1 H1 s1 x1 ((((er.mono x1).set i q1').set j q2').set l q3')
                    · cases q3
                  · cases q2
                · cases q1
              · cases h5
            · cases h5
          · cases h5
        · rw [if_neg hij] at h; cases h
      · cases h
    · cases h
  · cases h
theorem is_asg (g : Good G sc fnc C k X) {n : Nat} {tg e : Expr} {x : Sx} {pos : Pos} (h : cvAsg G sc fnc (cvE G n sc) tg e = some x) : PS X (.Assign [tg] e pos) (tS X.K C x) := by
  have hf : ∀ e x, cvE G n sc e = some x → Is X C e x := fun e x h => is_expr n sc fnc X g e x h
  unfold cvAsg at h
  split at h
  · rename_i y py
    split at h
    · rename_i i xe h1 h2
      obtain ⟨t1, t2, t3⟩ := tgN_ok g h1
      have nd : X.N.Nodup := by rw [g.N]; exact g.nd
      split at h
      · rename_i elt gens scope lp h3
        obtain rfl : e = .ListComp elt gens scope lp := by
          cases e <;> first | (cases h3; rfl) | cases h3
        by_cases hc : swl sc scope y py lp = false ∨ sc.names.lookup y = some .local
        · rw [if_pos hc] at h
          cases h
          by_cases hw : swl sc scope y py lp = true
          · cases n with
            | zero => cases h2
            | succ n =>
              obtain ⟨tg, iter, ifs, t, it, xc, xe, rfl, rfl, hb, hsl, hi, hs, hx⟩ := is_com g (fun sc fnc X g e x h => is_expr n sc fnc X g e x h) (show cvCom G sc (cvE G n) elt gens scope = some xe from h2)
              have hl : X.env.scope.names.lookup y = some .local := by
                rw [g.sc]
                rcases hc with hc | hc
                · rw [hw] at hc; cases hc
                · exact hc
              exact PS.imp (ps_setLc g.calm nd t1 hl (by rw [swl_ok g.sc, hw]) hi hb (fun s H D cl fp => (hx s H D cl fp).1) (fun s H D cl fp => (hx s H D cl fp).2.1) (fun s H D cl fp => (hx s H D cl fp).2.2) hs)
                (set_read (com_val hsl) fun v σ H Q z => set_nam z)
          · have hw : swl sc scope y py lp = false := by simpa using hw
            exact s_set nd t1 t2 (hf _ xe h2).v (by rw [swl_ok g.sc, hw]) t3
        · rw [if_neg hc] at h; cases h
      · by_cases hc : notComp e = true
        · rw [if_pos hc] at h
          cases h
          exact s_set nd t1 t2 (hf e xe h2).v (notComp_sw hc) t3
        · rw [if_neg hc] at h; cases h
    · cases h
  · rename_i ts kt pt
    split at h
    · rename_i vs k2 p2
      split at h
      · rename_i hs
        split at h
        · rename_i t xe h1 h2
          cases h
          exact s_asg (hf _ xe h2).v (is_tg g 4 h1) rfl (swp_ok g.sc hs) rfl
        · cases h
      · rename_i names hs
        exact is_par g hf hs h
      · cases h
    · by_cases hc : (notComp e && notTup e) = true
      · rw [if_pos hc] at h
        rw [Bool.and_eq_true] at hc
        split at h
        · rename_i t xe h1 h2
          cases h
          exact s_asg (hf _ xe h2).v (is_tg g 4 h1) (notComp_sole hc.1) (notTup_sw hc.2) rfl
        · cases h
      · rw [if_neg hc] at h; cases h
  · rename_i o i sp
    by_cases hc : (notComp e && notSlice i) = true
    · rw [if_pos hc] at h
      rw [Bool.and_eq_true] at hc
      split at h
      · rename_i xo xi xe h1 h2 h3
        cases h
        exact s_sub g.un (hf e xe h3).v (hf o xo h1).v (hf i xi h2).v (fun v => by have := hc.2; cases i <;> first | rfl | cases this) (notComp_sole hc.1) subs_sw
      · cases h
    · rw [if_neg hc] at h; cases h
  · cases h
theorem is_aug (g : Good G sc fnc C k X) {n : Nat} {tg e : Expr} {op : Operator} {x : Sx} {pos : Pos} (h : cvAug G sc fnc (cvE G n sc) tg op e = some x) : PS X (.AugAssign tg op e pos) (tS X.K C x) := by
  have hf : ∀ e x, cvE G n sc e = some x → Is X C e x := fun e x h => is_expr n sc fnc X g e x h
  unfold cvAug at h
  split at h
  · rename_i y py
    split at h
    · rename_i i xe h1 h2
      cases h
      obtain ⟨t1, t2, t3⟩ := tgN_ok g h1
      exact s_aug (by rw [g.N]; exact g.nd) t1 t2 (hf e xe h2).v t3
    · cases h
  · rename_i o i sp
    by_cases hc : notSlice i = true
    · rw [if_pos hc] at h
      split at h
      · rename_i xo xi xe h1 h2 h3
        cases h
        exact s_augS g.un (hf o xo h1).v (hf i xi h2).v (hf e xe h3).v (fun ov iv new => by cases i <;> first | rfl | cases hc)
      · cases h
    · rw [if_neg hc] at h; cases h
  · cases h
theorem s_retN {pos : Pos} : PS X (.Return none pos) (tS X.K C (.ret .non)) :=
  PS.imp ps_retN fun D σ H ⟨L, S, ρ, f, S', sm, er, e, q⟩ => by
    have e : Out.ok (Flo.rt .non) S = .ok f S' := e
    cases e
    exact q .non L H sm (Ext.refl L H) (by unfold Rep; rfl)
/-- every statement that was turned -/
theorem is_stmt (g : Good G sc fnc C k X) : ∀ (n : Nat) (s : Stmt) (x : Sx), cvS G sc fnc n s = some x → PS X s (tS X.K C x) := by
  have hf : ∀ e x, cvE G exFuel sc e = some x → Is X C e x := fun e x h => is_expr exFuel sc fnc X g e x h
  have hp : PassesOwn (model X.prog X.w) X.A X.env X.xe := by rw [g.xe]; exact PassesOwn.never
  intro n
  induction n with
  | zero => intro s x h; cases h
  | succ n ih =>
    intro s x h
    cases s with
    | Expr e pos =>
      have h : (if notComp e then (cvE G exFuel sc e).map .expr else none) = some x := h
      by_cases hc : notComp e = true
      · rw [if_pos hc] at h
        cases h1 : cvE G exFuel sc e with
        | none => rw [h1] at h; cases h
        | some xe => rw [h1] at h; cases h; exact s_expr (hf e xe h1).v (notComp_sw hc)
      · rw [if_neg hc] at h; cases h
    | Return e pos =>
      cases e with
      | none => cases h; exact s_retN
      | some e =>
        have h : (cvE G exFuel sc e).map .ret = some x := h
        cases h1 : cvE G exFuel sc e with
        | none => rw [h1] at h; cases h
        | some xe => rw [h1] at h; cases h; exact s_ret (hf e xe h1).v
    | If c a b pos =>
      unfold cvS at h
      dsimp only at h
      split at h
      · rename_i xc xa xb h1 h2 h3
        cases h
        exact s_if (hf c xc h1).t (is_ss ih h2) (is_ss ih h3)
      · cases h
    | Assign ts e pos =>
      cases ts with
      | nil => cases h
      | cons tg r =>
        cases r with
        | nil => exact is_asg g h
        | cons _ _ => cases h
    | AugAssign tg op e pos => exact is_aug g h
    | For tg iter b els pos =>
      cases els with
      | nil =>
        unfold cvS at h
        dsimp only at h
        split at h
        · rename_i t it xb h1 h2 h3
          cases h
          obtain ⟨i1, i2⟩ := is_iter g hf h2
          rw [← tgTup_of h1] at i1
          exact s_for hp g.calm i1 (is_tg g 4 h1) (is_ss ih h3) (noSet_ok i2)
        · cases h
      | cons _ _ => cases h
    | While c b els pos =>
      cases els with
      | nil =>
        unfold cvS at h
        dsimp only at h
        split at h
        · rename_i xc xb h1 h2
          cases h
          exact s_whl hp (hf c xc h1).t (is_ss ih h2)
        · cases h
      | cons _ _ => cases h
    | Pass pos => cases h; exact s_pass
    | Break pos => cases h; exact s_brk
    | Continue pos => cases h; exact s_cnt
    | _ => cases h
end
end Ev

end

section
set_option maxHeartbeats 1000000
/-! Ev14: the defs of a text, all at once; the law's end. -/
namespace Ev
open PySem L2 PyProof.Rows PySem.Spec

theorem fnG_of {P : Program} {w : World} {K : PySem.W.Frag} {mg : Str → Option Value} {base : Heap} {k : Nat} {f : Addr} {x qual : Str} {params : Arguments} {body : List Stmt} {scope : Scope} {dvs : List V} {kws : List (Str × V)} {fd : FuncData} {N ps : List Str} {sp : Sp}
    (F : FunD K x qual params body scope dvs kws f fd) (S : FnScope N ps scope) (len : ∀ vs H Q E, sp vs H Q E → vs.length = ps.length)
    (hbody : ∀ (cdv : Value) (A : Around) (outer : List PySem.Env) (s : Shared) (H : Hp) (vs : List V) (Q : VK) (E : XK), Room k (A.deeper (envOfC qual scope s.heap.objs.size f cdv)) → A.guards = some [] → sp vs H Q E →
      ∃ t, PSs (cxOf CX0 P w K mg base N qual scope f cdv A outer s H E).nox body t ∧ t { nx := fun _ H' => Q .non H', rt := Q } (L2.start N vs) H) : FnG P w K mg base (k + 1) f fd ps sp := by
  obtain ⟨oc, od, dV, kV, doc, pm, an, cdv, ct, osl, rfl, lk, hcd, _, _⟩ := F.ex
  refine ⟨len, fun A outer s H args us vs Q E room guard e0 bt rel hsp => ?_⟩
  have hl := len _ _ _ _ hsp
  have kin : K.In s.heap := e0.mod.kin.keeps fun b o z => (e0.bs b o z).1
  have kinds : ∀ q ∈ ps.zip us, scope.names.lookup q.1 = some .local ∨ (scope.names.lookup q.1 = some .cell ∧ ((cellsFrom (s.heap.objs.size + 1) scope.names []).lookup q.1).isSome = true) := by
    rintro ⟨n, v⟩ hq
    rcases S.par n (List.of_mem_zip hq).1 with z | z
    · exact .inl z
    · exact .inr ⟨z, PySem.W.cellsFrom_some _ _ _ (.inl z)⟩
  refine codeAny_call_function room.depth (kin _ _ lk) rfl S.co S.gen rfl (PySem.W.codeRec_of kin hcd) (bt _ _ _ _ ?_)
  refine wpAny_newFunctionEnv_cells S.kind kinds fun env henv s1 fresh => ?_
  subst henv
  refine ⟨(e0.mod.nolimit.keeps fun b o z => (e0.bs b o z).1).keeps fresh.toInCall.keep, codeAny_func ?_⟩
  obtain ⟨t, ht, hq⟩ := hbody cdv A outer s H vs Q E (room.deeper _) guard hsp
  have inv : Inv (cxOf CX0 P w K mg base N qual scope f cdv A outer s H E) [] (L2.start N vs) H s1 := inv_start S room.hd e0 hl rel fresh
  refine wpAny_mono (ht.nox.run [] s1 (L2.start N vs) H _ inv hq) (fun fl s' hs => ?_) fun e s' hs => hs
  have fin : ∀ {σ' : L2.St} {H' : Hp} {v : V} {u : Value}, Inv (cxOf CX0 P w K mg base N qual scope f cdv A outer s H E) [] σ' H' s' → RelV v u → Q v H' → CE outer P w H s Q u s' := fun J rv q => ⟨_, _, J.os, J.bare, J.base, J.hok, rv, q⟩
  cases fl with
  | ret u => obtain ⟨v, σ', H', J, rv, q⟩ := hs; exact fin J rv q
  | next => obtain ⟨σ', H', J, q⟩ := hs; exact fin (v := V.non) (u := Value.none) J rfl q
  | brk => obtain ⟨_, _, _, q⟩ := hs; exact q.elim
  | cont => obtain ⟨_, _, _, q⟩ := hs; exact q.elim

/-- a def of the text with its turned body -/
structure Dd where
  fn : Fn
  params : Arguments
  body : List Stmt
  scope : Scope
def gsOf (D : List Dd) (glos frees : List Str) (d : Dd) : Gs := ⟨d.fn.N, D.map fun d => (d.fn.name, d.fn.ps.length), glos, frees⟩
def stFuel : Nat := 20
structure Dd.Ok (D : List Dd) (glos frees : List Str) (d : Dd) : Prop where
  sc : FnScope d.fn.N d.fn.ps d.scope
  cv : cvSs (cvS (gsOf D glos frees d) d.scope (fun _ => true) stFuel) d.body = some d.fn.body
  first : (D.map Dd.fn).find? (fun f => decide (f.name = d.fn.name)) = some d.fn

theorem start_get {α : Type} {n i : Nat} {xs : List α} {x : α} : (xs.map some ++ List.replicate n none)[i]? = some (some x) ↔ xs[i]? = some x := by
  by_cases hi : i < xs.length
  · rw [List.getElem?_append_left (by simpa using hi), List.getElem?_map]
    cases xs[i]? <;> simp
  · rw [List.getElem?_append_right (by simpa using hi), List.getElem?_replicate, List.getElem?_eq_none (Nat.le_of_not_lt hi)]
    split <;> simp
theorem envR_start {K : PySem.W.Frag} {scr : List Int} {L : List Addr} {H : Hp} {N : List Str} {ds : List Val} {vs : List V} (r : RepL K scr L H ds vs) : EnvR K scr L H (start N.length ds) (L2.start N vs) := by
  have hl := r.length
  refine ⟨by simp [start, L2.start, hl], fun i d q => ?_⟩
  obtain ⟨v, h1, h2⟩ := r.get (start_get.mp q)
  exact ⟨v, start_get.mpr h1, h2⟩

/-- the facts of a text's top -/
structure TopF (K : PySem.W.Frag) (mg : Str → Option Value) (D : List Dd) (glos frees : List Str) (glo : Str → Option Val) (scr : List Int) : Prop where
  def_ : ∀ d ∈ D, ∃ f fd, mg d.fn.name = some (.ref f) ∧ FunD K d.fn.name d.fn.name d.params d.body d.scope [] [] f fd ∧ Binds K fd d.fn.ps []
  glos : ∀ y ∈ glos, ∃ d v u, mg y = some u ∧ RelV v u ∧ glo y = some d ∧ ∀ L H, Rep K scr L H d v
  frees : ∀ y ∈ frees, mg y = none

theorem fn_all {P : Program} {w : World} {K : PySem.W.Frag} {mg : Str → Option Value} {base : Heap} {D : List Dd} {glos frees : List Str} {glo : Str → Option Val} {scr : List Int} {gas : Nat} (T : TopF K mg D glos frees glo scr) (ok : ∀ d ∈ D, d.Ok D glos frees) :
    ∀ (n : Nat), ∀ d ∈ D, ∀ f fd, mg d.fn.name = some (.ref f) → FunD K d.fn.name d.fn.name d.params d.body d.scope [] [] f fd → FnG P w K mg base n f fd d.fn.ps (spM K scr d.fn.ps.length (sem (D.map Dd.fn) glo scr gas n d.fn.name)) := by
  intro n
  induction n with
  | zero =>
    intro d hd f fd hm F
    refine ⟨fun vs H Q E h => h.1, fun A outer s H args us vs Q E _ _ _ _ _ h => ?_⟩
    obtain ⟨_, L, S, ds, x, S', _, _, e, _⟩ := h
    exact (ok_bad (S := S) e).elim
  | succ n ih =>
    intro d hd f fd hm F
    have o := ok d hd
    refine fnG_of F o.sc (fun vs H Q E h => h.1) fun cdv A outer s H vs Q E room guard h => ?_
    obtain ⟨_, L, S, ds, x, S', sm, r, e, q⟩ := h
    let C : Ev.Ctx := ⟨sem (D.map Dd.fn) glo scr gas n, glo, scr, gas⟩
    have g : Good (gsOf D glos frees d) d.scope (fun _ => true) C n (cxOf CX0 P w K mg base d.fn.N d.fn.name d.scope f cdv A outer s H E).nox := by
      refine ⟨rfl, o.sc.nd, rfl, rfl, room, guard, rfl, rfl, fun y m hy => ?_, T.glos, T.frees⟩
      obtain ⟨d', hd', z⟩ := List.mem_map.mp hy
      cases z
      obtain ⟨f', fd', m1, m2, m3⟩ := T.def_ d' hd'
      exact ⟨f', fd', d'.fn.ps, m1, m2.kp, m3, ih d' hd' f' fd' m1 m2⟩
    refine ⟨_, is_ss (C := C) (fun s x h => is_stmt g stFuel s x h) o.cv, ?_⟩
    have e : (match (D.map Dd.fn).find? (fun f : Fn => decide (f.name = d.fn.name)) with
      | some f => runFn C f ds
      | none => bad) S = .ok x S' := e
    rw [o.first] at e
    have e : (guard' (decide (ds.length = d.fn.ps.length)) >>= fun _ => evSs C d.fn.body (start d.fn.N.length ds) >>= fun r => match r with
      | .nx _ => pure .non
      | .rt v => pure v
      | _ => bad) S = .ok x S' := e
    obtain ⟨u, S1, e1, e2⟩ := ok_bind e
    cases u
    obtain ⟨_, z1⟩ := guard_ok e1
    subst z1
    obtain ⟨fl, S2, e3, e4⟩ := ok_bind e2
    refine ⟨L, _, _, fl, S2, sm, envR_start r, e3, ?_⟩
    cases fl with
    | nx ρ =>
      obtain ⟨z1, z2⟩ := ok_pure e4
      subst z1 z2
      exact fun σ' L' H' s' x' _ => q .non L' H' s' x' (by unfold Rep; rfl)
    | rt v =>
      obtain ⟨z1, z2⟩ := ok_pure e4
      subst z1 z2
      exact fun v L' H' s' x' r' => q v L' H' s' x' r'
    | bk ρ => exact (ok_bad e4).elim
    | ct ρ => exact (ok_bad e4).elim

/-- the law's call, at the heap behind the top -/
theorem law_callG {P : Program} {w : World} {K : PySem.W.Frag} {mg mb : Str → Option Value} {k : Nat} {fa a : Addr} {fd : FuncData} {x : Str} {sp : Sp} {s₁ : Shared} {vs : List Value} {ns : List Int}
    (KX : K.In s₁.heap) (hns : s₁.heap.Ns mainGlobals mg) (hb : s₁.heap.Ns builtinsNs mb) (hbb : ∀ x : Str, x ≠ "__name__" → mb x = bootBuiltins x) (hlim : s₁.heap.NoLimit) (hg : s₁.gens = #[])
    (ha : s₁.heap.get? a = some { cls := .type "list", data := .seq vs.toArray }) (hi : IntsAre vs ns) (hl : ns.length ≤ sizeLine) (hr : Room k callerA)
    (F : ∀ base : Heap, FnG P w K mg base k fa fd [x] sp) (hbind : ∀ (s : Shared) (u : Value), BindsTo s fd ⟨[u], []⟩ [(x, u)])
    (hsp : ∀ H : Hp, Only H → SqL K H a (ns.map V.int) → sp [.ref a] H (fun v _ => v = .bl true) E0) :
    codeAny (model P w) callerA (.call (.ref fa) ⟨[.ref a], []⟩) (fun r s' => r = .ok (.ret (.bool true)) ∧ OldK s₁.heap s'.heap ∧ s'.os = s₁.os ∧ AllBare s'.gens) s₁ := by
  have rv := vals_ints hi
  have lenV := hi.length
  have core : ∀ H : Hp, Only H → SqL K H a (ns.map V.int) → HOk P w H s₁.heap → (∀ b, H b ≠ none → b = a) → (H a ≠ none → K.lookup a = none) →
      codeAny (model P w) callerA (.call (.ref fa) ⟨[.ref a], []⟩) (fun r s' => r = .ok (.ret (.bool true)) ∧ OldK s₁.heap s'.heap ∧ s'.os = s₁.os ∧ AllBare s'.gens) s₁ := by
    intro H only sq hok alone notK
    have dicts : ∀ {b : Addr} {o : Obj} {es : Array DictEntry} {ep : Nat}, s₁.heap.get? b = some o → o.data = .dict es ep → H b = none := by
      intro b o es ep e d
      cases q : H b with
      | none => rfl
      | some u =>
        obtain rfl : b = a := alone b (by simp [q])
        rw [ha] at e
        cases e
        cases (show Data.seq vs.toArray _ = Data.dict es ep from d)
    have names : ∀ {b : Addr} {m : Str → Option Value}, s₁.heap.Ns b m → (hidT s₁.heap H).Ns b m := fun ⟨o, es, ep, e, d, r⟩ => ⟨o, es, ep, hidT_get e (dicts e d), d, r⟩
    have kin : K.In (hidT s₁.heap H) := by
      intro b o e
      refine hidT_get (KX b o e) ?_
      cases q : H b with
      | none => rfl
      | some u =>
        obtain rfl : b = a := alone b (by simp [q])
        rw [notK (by simp [q])] at e
        cases e
    obtain ⟨mc, c1, c2⟩ := hlim
    have e0 : Env0 P w K mg (hidT s₁.heap H) callerA [] s₁ H :=
      ⟨rfl, ⟨kin, names hns, ⟨mb, names hb, hbb⟩, ⟨mc, names c1, c2⟩⟩, fun b o e => of_hidT e, Nat.le_of_eq (hidT_size _ _), trivial, fun b z => (by cases (show b ∈ ([] : List Addr) from z)), hok, .of_eq hg⟩
    refine codeAny_mono ((F _).run callerA [] s₁ H ⟨[.ref a], []⟩ [.ref a] [.ref a] _ _ hr rfl e0 (hbind s₁ (.ref a)) (.cons rfl .nil) (hsp H only sq)) fun r s' h => ?_
    cases r with
    | error e => exact False.elim h
    | ok fl =>
      cases fl with
      | next => exact False.elim h
      | brk => exact False.elim h
      | cont => exact False.elim h
      | ret u =>
        obtain ⟨v, H', os, bare, un, hok', r', q⟩ := h
        have q : v = .bl true := q
        subst q
        obtain rfl : u = Value.bool true := r'
        refine ⟨rfl, OldK.of_keep fun b o e => ?_, os, bare⟩
        cases q : H b with
        | none => exact un.keep b o e q (fun z => by cases (show b ∈ ([] : List Addr) from z)) (by simp)
        | some u =>
          rcases only b with z | ⟨ob, xs, z⟩
          · rw [q] at z; cases z
          · have e1 := (hok b _ z).1
            have e2 := (hok' b _ (un.frzs b ob _ z)).1
            rw [e] at e1
            cases e1
            exact e2
  cases hk : K.lookup a with
  | some o =>
    have e := KX a o hk
    rw [ha] at e
    cases e
    exact core (fun _ => none) (fun _ => .inl rfl) (.inr ⟨_, vs.toArray, _, hk, rfl, rfl, rfl, by rw [List.size_toArray, lenV]; exact hl, by simpa using rv⟩) (fun b u z => by cases (show (none : Option HO) = some u from z)) (fun b z => absurd rfl z) fun z => absurd rfl z
  | none =>
    let ob : Obj := { cls := .type "list", data := .seq vs.toArray }
    refine core (fun b => if b = a then some (.frz ob (.lst (ns.map V.int))) else none) (fun b => ?_) (.inl (.inr ⟨ob, if_pos rfl⟩)) (fun b u z => ?_) (fun b z => ?_) fun _ => hk
    · by_cases h : b = a
      · exact .inr ⟨_, _, if_pos h⟩
      · exact .inl (if_neg h)
    · by_cases h : b = a
      · cases (if_pos h).symm.trans z
        subst h
        exact ⟨ha, by rw [List.length_map]; exact hl, vs, _, rv, ha⟩
      · cases (if_neg h).symm.trans z
    · by_cases h : b = a
      · exact h
      · exact absurd (if_neg h) z

/-- a law over a head by facts: what the reckoner says of it -/
theorem walk_ofG {l : PySem.W.OpenLaw} {n k : Nat} {q : Program} {loose : List Str} {XP : (Str → Option Value) → Heap → Prop} {YP : World → Heap → Prop} {d : DefRec} {x : Str} {D : List Dd} {glos frees : List Str} {glo : Str → Option Val} {gas : Nat} {law : Dd}
    (hn : l.most = some n) (hn2 : n ≤ sizeLine) (hdf : d.params.defaults = []) (hr : Room k callerA) (ok : ∀ d ∈ D, d.Ok D glos frees) (hlaw : law ∈ D) (hps : law.fn.ps = [x])
    (F : ∀ (w : World) (mg : Str → Option Value) (fa : Addr) (h : Heap), YP w h → h.Ns mainGlobals mg → mg d.name = some (.ref fa) →
      ∃ (K : PySem.W.Frag), K.In h ∧ mg law.fn.name = some (.ref fa) ∧ (∀ scr, TopF K mg D glos frees glo scr) ∧ ∃ fd, FunD K law.fn.name law.fn.name law.params law.body law.scope [] [] fa fd ∧ ∀ (s : Shared) (u : Value), BindsTo s fd ⟨[u], []⟩ [(x, u)])
    (holds : ∀ scr : List Int, scr.length ≤ n → (∀ i ∈ scr, Builtin.Int.intBits i ≤ 1048576) → ∃ S', sem (D.map Dd.fn) glo scr gas k law.fn.name [.scr] [] = .ok (.bl true) S') :
    PySem.W.WalkO q loose XP YP l.row.toRowW d [] (fun f vs => PySem.call f vs) := by
  refine Att.attach_callB hn hdf fun w s₀ s₁ mg mb fa o pm cd doc a vs ns G Y ho hd hcd hmg hobj hints hlen bits hg => ?_
  obtain ⟨K, KX, hm, T, fd, FD, hb⟩ := F w mg fa _ Y G.T.g hmg
  refine law_callG (sp := spM K ns law.fn.ps.length (sem (D.map Dd.fn) glo ns gas k law.fn.name)) KX G.T.g G.T.b G.T.builtins G.T.nolimit hg hobj hints (Nat.le_trans hlen hn2) hr (fun base => ?_) hb fun H only sq => ?_
  · have := fn_all (P := l.prog) (w := w) (base := base) (gas := gas) (T ns) ok k law hlaw fa fd hm FD
    rw [hps] at this
    rw [hps]
    exact this
  · obtain ⟨S', e⟩ := holds ns hlen bits
    refine ⟨by rw [hps]; rfl, [], [], [.scr], .bl true, S', ⟨rfl, List.nodup_nil, fun n a o h => by cases h⟩, RepL.cons ?_ RepL.nil, e, fun v L' H' _ _ r => by unfold Rep at r; exact r⟩
    unfold Rep
    refine ⟨a, rfl, ?_⟩
    rcases sq with sq | sq
    · rcases sq with z | ⟨o, z⟩
      · rcases only a with y | ⟨o, xs, y⟩
        · rw [z] at y; cases y
        · rw [z] at y; cases y
      · exact .inl ⟨o, z, by simp⟩
    · exact .inr sq
end Ev

end

section
set_option maxHeartbeats 1000000
/-! Ev16: the facts of a text's top, by the head's look. -/
namespace Ev
open PySem L2 PyProof.Rows PySem.Spec
def Dd.h (d : Dd) : He.DefD := ⟨(d.fn.name, none), d.fn.name, d.fn.name, d.params, d.body, d.scope, [], []⟩
def conFa : Str × Val → Option He.Fa
  | (x, .int i) => some (.int x i)
  | (x, .str z) => some (.str x z)
  | _ => none
def faOf (D : List Dd) (frees : List Str) (cons : List (Str × Val)) : List He.Fa := (D.map fun d => .glo d.fn.name) ++ (frees.map .free ++ cons.filterMap conFa)
def gloOf (cons : List (Str × Val)) (x : Str) : Option Val := (cons.find? fun p => decide (p.1 = x)).map (·.2)
/-- a def takes as many values as it has names -/
def Dd.Bnd (d : Dd) : Prop := ∀ (kV doc pm : Value) (an : Option Addr) (cdv ct : Value) (us : List Value), us.length = d.fn.ps.length → bindArgs (PySem.W.fnOf d.fn.name d.fn.name d.params d.body d.scope .none kV doc pm an cdv ct) ⟨us, []⟩ = pure (d.fn.ps.zip us)
def consOk (cons : List (Str × Val)) : Bool := cons.all fun p => (conFa p).isSome && decide (gloOf cons p.1 = some p.2)
theorem top_of {K : PySem.W.Frag} {h : Heap} {mg : Str → Option Value} {D : List Dd} {frees : List Str} {cons : List (Str × Val)} (X : K.In h) (G : h.Ns mainGlobals mg) (hb : ∀ d ∈ D, d.Bnd) (hc : consOk cons = true) (c : He.SaysD (faOf D frees cons) (D.map Dd.h) K) (scr : List Int) :
    TopF K mg D (cons.map (·.1)) frees (gloOf cons) scr := by
  have fact : ∀ f ∈ faOf D frees cons, f.ok K = true := fun f hf => by
    obtain ⟨i, hi⟩ := List.getElem?_of_mem hf
    exact c.fact i hi
  refine ⟨fun d hd => ?_, fun y hy => ?_, fun y hy => ?_⟩
  · obtain ⟨i, hi⟩ := List.getElem?_of_mem hd
    obtain ⟨fd, F⟩ := c.def_ i (d := d.h) (by rw [List.getElem?_map, hi]; rfl)
    have hg := He.glo_ok X G (fact (.glo d.fn.name) (List.mem_append_left _ (List.mem_map.mpr ⟨d, hd, rfl⟩)))
    have F : FunD K d.fn.name d.fn.name d.params d.body d.scope [] [] (He.ga K d.fn.name) fd := F
    exact ⟨_, fd, hg, F, F.bindsN (hb d hd)⟩
  · obtain ⟨p, hp, rfl⟩ := List.mem_map.mp hy
    have h1 := List.all_eq_true.mp hc p hp
    rw [Bool.and_eq_true] at h1
    obtain ⟨x, v⟩ := p
    have h2 : gloOf cons x = some v := of_decide_eq_true h1.2
    have mem : ∀ f, conFa (x, v) = some f → f ∈ faOf D frees cons := fun f hf => List.mem_append_right _ (List.mem_append_right _ (List.mem_filterMap.mpr ⟨(x, v), hp, hf⟩))
    cases v with
    | int i =>
      obtain ⟨t, e⟩ := He.int_ok X G (fact _ (mem (.int x i) rfl))
      exact ⟨.int i, .int i, _, e, ⟨t, rfl⟩, h2, fun L H => by unfold Rep; rfl⟩
    | str z =>
      obtain ⟨t, e⟩ := He.str_ok X G (fact _ (mem (.str x z) rfl))
      exact ⟨.str z, .str z, _, e, ⟨t, rfl⟩, h2, fun L H => by unfold Rep; rfl⟩
    | _ => cases h1.1
  · exact He.free_ok X G (fact (.free y) (List.mem_append_right _ (List.mem_append_left _ (List.mem_map.mpr ⟨y, hy, rfl⟩))))

/-- the law's end: the facts, and what the reckoner says -/
theorem walk_all {l : PySem.W.OpenLaw} {n k : Nat} {q : Program} {loose : List Str} {XP : (Str → Option Value) → Heap → Prop} {d : DefRec} {x : Str} {D : List Dd} {frees : List Str} {cons : List (Str × Val)} {gas m : Nat} {law : Dd}
    (hn : l.most = some n) (hn2 : n ≤ sizeLine) (hdf : d.params.defaults = []) (hr : Room k callerA) (ok : ∀ d ∈ D, d.Ok D (cons.map (·.1)) frees) (hb : ∀ d ∈ D, d.Bnd) (hc : consOk cons = true) (hlaw : law ∈ D) (hps : law.fn.ps = [x]) (hname : d.name = law.fn.name)
    (holds : ∀ scr : List Int, scr.length ≤ n → (∀ i ∈ scr, Builtin.Int.intBits i ≤ 1048576) → ∃ S', sem (D.map Dd.fn) (gloOf cons) scr gas k law.fn.name [.scr] [] = .ok (.bl true) S') :
    PySem.W.WalkO q loose XP (He.hookD m (faOf D frees cons) (D.map Dd.h)).says l.row.toRowW d [] (fun f vs => PySem.call f vs) := by
  refine walk_ofG (gas := gas) hn hn2 hdf hr ok hlaw hps (fun w mg fa h Y G hm => ?_) holds
  obtain ⟨K, KX, c⟩ := Y
  rw [hname] at hm
  have T := fun scr => top_of KX G hb hc c scr
  refine ⟨K, KX, hm, T, ?_⟩
  obtain ⟨f, fd, m1, F, _⟩ := (T []).def_ law hlaw
  rw [hm] at m1
  cases m1
  refine ⟨fd, F, fun s u => ?_⟩
  have b := FunD.bindsA (ps := law.fn.ps) F (hb law hlaw) s [u] (by rw [hps]; rfl)
  rw [hps] at b
  exact b
end Ev

end

section
/-! P0: how the reckoner's runs are told: W. -/
namespace Ev
open PySem

/-- m ends well at S, with Q -/
def W {α : Type} (m : M α) (S : Sto) (Q : α → Sto → Prop) : Prop := ∃ a S', m S = .ok a S' ∧ Q a S'
section
variable {α β : Type} {m : M α} {S : Sto} {Q R : α → Sto → Prop}
theorem w_ok {a : α} {S' : Sto} (h : m S = .ok a S') (q : Q a S') : W m S Q := ⟨a, S', h, q⟩
theorem w_pure {a : α} (h : Q a S) : W (pure a : M α) S Q := ⟨a, S, rfl, h⟩
theorem w_bind {f : α → M β} {Q : β → Sto → Prop} (h : W m S fun a S1 => W (f a) S1 Q) : W (m >>= f) S Q := by
  obtain ⟨a, S1, e, b, S2, e2, q⟩ := h
  refine ⟨b, S2, ?_, q⟩
  show (match m S with | .ok a S' => f a S' | .exc c fs S' => .exc c fs S' | .bad => .bad) = _
  rw [e]; exact e2
theorem w_mono (h : W m S Q) (f : ∀ a S', Q a S' → R a S') : W m S R := by
  obtain ⟨a, S1, e, q⟩ := h
  exact ⟨a, S1, e, f a S1 q⟩
theorem w_ite {b : Bool} {m' : M α} (h1 : b = true → W m S Q) (h2 : b = false → W m' S Q) : W (if b then m else m') S Q := by
  cases b with
  | true => exact h1 rfl
  | false => exact h2 rfl
theorem w_iteT {m' : M α} (h : W m S Q) : W (if true then m else m') S Q := h
theorem w_iteF {m' : M α} (h : W m' S Q) : W (if false then m else m') S Q := h
theorem w_opt {a : α} {o : Option α} (e : o = some a) (h : Q a S) : W (opt o) S Q := by subst e; exact ⟨a, S, rfl, h⟩
theorem w_guard {b : Bool} {Q : Unit → Sto → Prop} (e : b = true) (h : Q () S) : W (guard' b) S Q := by subst e; exact ⟨(), S, rfl, h⟩
theorem w_alloc {o : Ob} {Q : Val → Sto → Prop} (h : Q (.loc S.length) (S ++ [o])) : W (alloc o) S Q := ⟨_, _, rfl, h⟩
end

section
variable {C : Ctx} {ρ : Env} {S : Sto} {Q : Val → Sto → Prop} {a b c e : Ex} {es : Exs}
/-! ### expressions -/
theorem eVar {i : Nat} {v : Val} (h : ρ[i]? = some (some v)) (q : Q v S) : W (evE C (.var i) ρ) S Q := by
  refine ⟨v, S, ?_, q⟩
  show varM ρ i S = _
  unfold varM; rw [h]; rfl
theorem eNon (q : Q .non S) : W (evE C .non ρ) S Q := ⟨_, _, rfl, q⟩
theorem eBl {b : Bool} (q : Q (.bl b) S) : W (evE C (.bl b) ρ) S Q := ⟨_, _, rfl, q⟩
theorem eInt {i : Int} (q : Q (.int i) S) : W (evE C (.int i) ρ) S Q := ⟨_, _, rfl, q⟩
theorem eStr {x : Str} (q : Q (.str x) S) : W (evE C (.str x) ρ) S Q := ⟨_, _, rfl, q⟩
theorem eTy {n : String} (q : Q (.ty n) S) : W (evE C (.ty n) ρ) S Q := ⟨_, _, rfl, q⟩
theorem eGlo {x : Str} {v : Val} (h : C.glo x = some v) (q : Q v S) : W (evE C (.glo x) ρ) S Q := by
  refine ⟨v, S, ?_, q⟩
  show opt (C.glo x) S = _
  rw [h]; rfl
theorem eBin {op : Operator} (h : W (evE C a ρ) S fun x S1 => W (evE C b ρ) S1 fun y S2 => W (binV op x y) S2 Q) : W (evE C (.bin op a b) ρ) S Q :=
  w_bind (m := evE C a ρ) (w_mono h fun x S1 h1 => w_bind h1)
theorem eNeg (h : W (evE C a ρ) S fun x S1 => W (negM x) S1 Q) : W (evE C (.neg a) ρ) S Q := w_bind (m := evE C a ρ) h
theorem eNot (h : W (evE C a ρ) S fun x S1 => W (tru x) S1 fun t S2 => Q (.bl (!t)) S2) : W (evE C (.not a) ρ) S Q :=
  w_bind (m := evE C a ρ) (w_mono h fun x S1 h1 => w_bind (w_mono h1 fun t S2 q => w_pure q))
theorem eCmp {op : CmpOp} (h : W (evE C a ρ) S fun x S1 => W (evE C b ρ) S1 fun y S2 => W (cmpV op x y) S2 Q) : W (evE C (.cmp op a b) ρ) S Q :=
  w_bind (m := evE C a ρ) (w_mono h fun x S1 h1 => w_bind h1)
theorem eChn {op op' : CmpOp} (h : W (evE C a ρ) S fun x S1 => W (evE C b ρ) S1 fun y S2 => W (cmpV op x y) S2 fun z S3 => W (tru z) S3 fun t S4 => W (if t then (evE C c ρ >>= fun w => cmpV op' y w) else pure z) S4 Q) : W (evE C (.chn op op' a b c) ρ) S Q :=
  w_bind (m := evE C a ρ) (w_mono h fun x S1 h1 => w_bind (w_mono h1 fun y S2 h2 => w_bind (w_mono h2 fun z S3 h3 => w_bind h3)))
theorem eAnd (h : W (evE C a ρ) S fun x S1 => W (tru x) S1 fun t S2 => W (if t then evE C b ρ else pure x) S2 Q) : W (evE C (.and a b) ρ) S Q :=
  w_bind (m := evE C a ρ) (w_mono h fun x S1 h1 => w_bind h1)
theorem eOr (h : W (evE C a ρ) S fun x S1 => W (tru x) S1 fun t S2 => W (if t then pure x else evE C b ρ) S2 Q) : W (evE C (.or a b) ρ) S Q :=
  w_bind (m := evE C a ρ) (w_mono h fun x S1 h1 => w_bind h1)
theorem eIte (h : W (evT C c ρ) S fun t S1 => W (if t then evE C a ρ else evE C b ρ) S1 Q) : W (evE C (.ite c a b) ρ) S Q := w_bind (m := evT C c ρ) h
theorem eTup (h : W (evEs C es ρ) S fun xs S1 => Q (.tup xs) S1) : W (evE C (.tup es) ρ) S Q := w_bind (m := evEs C es ρ) (w_mono h fun xs S1 q => w_pure q)
theorem eLst (h : W (evEs C es ρ) S fun xs S1 => Q (.loc S1.length) (S1 ++ [.lst xs])) : W (evE C (.lst es) ρ) S Q := w_bind (m := evEs C es ρ) (w_mono h fun xs S1 q => w_alloc q)
theorem eDic (h : Q (.loc S.length) (S ++ [.dic []])) : W (evE C .dic ρ) S Q := w_alloc h
theorem eCall {f : Str} (h : W (evEs C es ρ) S fun xs S1 => W (C.call f xs) S1 Q) : W (evE C (.call f es) ρ) S Q := w_bind (m := evEs C es ρ) h
theorem eBi {f : String} (h : W (evEs C es ρ) S fun xs S1 => W (biV f xs) S1 Q) : W (evE C (.bi f es) ρ) S Q := w_bind (m := evEs C es ρ) h
theorem eSq {f : String} (h : W (evQ C e ρ) S fun q S1 => W (sqV f q.1 q.2) S1 Q) : W (evE C (.sq f e) ρ) S Q := w_bind (m := evQ C e ρ) h
theorem eExt {o : Ex} (h : W (evE C o ρ) S fun x S1 => W (tyM x) S1 fun T S2 => W (evQ C e ρ) S2 fun q S3 => W (if T = "list" ∧ q.1 = true then extV x q.2 else bad) S3 Q) : W (evE C (.ext o e) ρ) S Q :=
  w_bind (m := evE C o ρ) (w_mono h fun x S1 h1 => w_bind (w_mono h1 fun y S2 h2 => w_bind (m := evQ C e ρ) h2))
theorem eMet {o : Ex} {m : String} (h : W (evE C o ρ) S fun x S1 => W (tyM x) S1 fun T S2 => W (evEs C es ρ) S2 fun xs S3 => W (metV T m x xs) S3 Q) : W (evE C (.met o m es) ρ) S Q :=
  w_bind (m := evE C o ρ) (w_mono h fun x S1 h1 => w_bind (w_mono h1 fun y S2 h2 => w_bind h2))
theorem eIdx (h : W (evE C a ρ) S fun x S1 => W (evE C b ρ) S1 fun y S2 => W (idxV x y) S2 Q) : W (evE C (.idx a b) ρ) S Q :=
  w_bind (m := evE C a ρ) (w_mono h fun x S1 h1 => w_bind h1)
theorem eSli (h : W (evE C a ρ) S fun x S1 => W (evE C b ρ) S1 fun y S2 => W (evE C c ρ) S2 fun z S3 => W (sliM C.scr (isNon b) (isNon c) x y z) S3 Q) : W (evE C (.sli a b c) ρ) S Q :=
  w_bind (m := evE C a ρ) (w_mono h fun x S1 h1 => w_bind (w_mono h1 fun y S2 h2 => w_bind h2))
theorem eRev {Q : Val → Sto → Prop} (h : W (evQ C a ρ) S fun q S1 => W (if q.1 then alloc (.lst q.2.reverse) else pure (.tup q.2.reverse)) S1 Q) : W (evE C (.rev a) ρ) S Q := w_bind (m := evQ C a ρ) h
/-- one turn of a comprehension -/
def turnOf (C : Ctx) (vs : List Nat) (tg : Tg) (c e : Ex) (ρ : Env) (x : Val) : M (Option Val) := do
  let ρ' ← opt (asg tg x (wipe ρ vs))
  let t ← evT C c ρ'
  if t then do
    let y ← evE C e ρ'
    pure (some y)
  else pure none
theorem eCom {vs : List Nat} {tg : Tg} {it : It} (h : W (evI C it ρ) S fun w S1 => w.xs.length ≤ sizeLine ∧ W (comLoop w (turnOf C vs tg c e ρ) w.xs) S1 fun ys S2 => Q (.loc S2.length) (S2 ++ [.lst ys])) : W (evE C (.com vs tg it c e) ρ) S Q :=
  w_bind (m := evI C it ρ) (w_mono h fun w S1 ⟨h0, h1⟩ => w_bind (w_guard (decide_eq_true h0) (w_bind (w_mono h1 fun ys S2 q => w_alloc q))))
theorem qCom {Q : Bool × List Val → Sto → Prop} {vs : List Nat} {tg : Tg} {it : It} (h : W (evI C it ρ) S fun w S1 => w.xs.length ≤ sizeLine ∧ W (comLoop w (turnOf C vs tg c e ρ) w.xs) S1 fun ys S2 => Q (true, ys) S2) : W (evQ C (.com vs tg it c e) ρ) S Q :=
  w_bind (m := evI C it ρ) (w_mono h fun w S1 ⟨h0, h1⟩ => w_bind (w_guard (decide_eq_true h0) (w_bind (w_mono h1 fun ys S2 q => w_pure q))))
theorem qLst {Q : Bool × List Val → Sto → Prop} (h : W (evEs C es ρ) S fun xs S1 => Q (true, xs) S1) : W (evQ C (.lst es) ρ) S Q := w_bind (m := evEs C es ρ) (w_mono h fun xs S1 q => w_pure q)
theorem qOf {Q : Bool × List Val → Sto → Prop} (hq : evQ C e ρ = (evE C e ρ >>= seqM)) (h : W (evE C e ρ) S fun x S1 => W (seqM x) S1 Q) : W (evQ C e ρ) S Q := by rw [hq]; exact w_bind h
theorem tNot {Q : Bool → Sto → Prop} (h : W (evT C a ρ) S fun t S1 => Q (!t) S1) : W (evT C (.not a) ρ) S Q := w_bind (m := evT C a ρ) (w_mono h fun t S1 q => w_pure q)
theorem tAnd {Q : Bool → Sto → Prop} (h : W (evT C a ρ) S fun t S1 => W (if t then evT C b ρ else pure false) S1 Q) : W (evT C (.and a b) ρ) S Q := w_bind (m := evT C a ρ) h
theorem tOr {Q : Bool → Sto → Prop} (h : W (evT C a ρ) S fun t S1 => W (if t then pure true else evT C b ρ) S1 Q) : W (evT C (.or a b) ρ) S Q := w_bind (m := evT C a ρ) h
theorem tIte {Q : Bool → Sto → Prop} (h : W (evT C c ρ) S fun t S1 => W (if t then evT C a ρ else evT C b ρ) S1 Q) : W (evT C (.ite c a b) ρ) S Q := w_bind (m := evT C c ρ) h
theorem tOf {Q : Bool → Sto → Prop} (ht : evT C e ρ = (evE C e ρ >>= tru)) (h : W (evE C e ρ) S fun x S1 => W (tru x) S1 Q) : W (evT C e ρ) S Q := by rw [ht]; exact w_bind h
theorem esNil {Q : List Val → Sto → Prop} (h : Q [] S) : W (evEs C .nil ρ) S Q := w_pure h
theorem esCons {Q : List Val → Sto → Prop} (h : W (evE C e ρ) S fun x S1 => W (evEs C es ρ) S1 fun xs S2 => Q (x :: xs) S2) : W (evEs C (.cons e es) ρ) S Q :=
  w_bind (m := evE C e ρ) (w_mono h fun x S1 h1 => w_bind (w_mono h1 fun xs S2 q => w_pure q))
theorem iSeq {Q : Walk → Sto → Prop} (h : W (evE C e ρ) S fun x S1 => W (walkV x) S1 Q) : W (evI C (.seq e) ρ) S Q := w_bind (m := evE C e ρ) h
theorem iRng1 {Q : Walk → Sto → Prop} (h : W (evE C a ρ) S fun x S1 => W (rng1M x) S1 Q) : W (evI C (.rng1 a) ρ) S Q := w_bind (m := evE C a ρ) h
theorem iRng2 {Q : Walk → Sto → Prop} (h : W (evE C a ρ) S fun x S1 => W (evE C b ρ) S1 fun y S2 => W (rng2M x y) S2 Q) : W (evI C (.rng2 a b) ρ) S Q := w_bind (m := evE C a ρ) (w_mono h fun x S1 h1 => w_bind h1)
theorem iZip {Q : Walk → Sto → Prop} (h : W (evE C a ρ) S fun x S1 => W (evE C b ρ) S1 fun y S2 => W (zipM x y) S2 Q) : W (evI C (.zip a b) ρ) S Q := w_bind (m := evE C a ρ) (w_mono h fun x S1 h1 => w_bind h1)
theorem iEnum {Q : Walk → Sto → Prop} (h : W (evE C a ρ) S fun x S1 => W (enumM x) S1 Q) : W (evI C (.enum a) ρ) S Q := w_bind (m := evE C a ρ) h
end

/-! ### statements -/
section
variable {C : Ctx} {ρ : Env} {S : Sto} {Q : Flo → Sto → Prop} {a b c e o i : Ex} {s : Sx} {ss x y : Sxs}
theorem ssNil (h : Q (.nx ρ) S) : W (evSs C .nil ρ) S Q := w_pure h
/-- what comes behind a statement -/
def Aft (C : Ctx) (ss : Sxs) (Q : Flo → Sto → Prop) (f : Flo) (S : Sto) : Prop := match f with
  | .nx ρ => W (evSs C ss ρ) S Q
  | f => Q f S
theorem ssCons (h : W (evS C s ρ) S (Aft C ss Q)) : W (evSs C (.cons s ss) ρ) S Q := by
  refine w_bind (m := evS C s ρ) (w_mono h fun f S1 h1 => ?_)
  cases f with
  | nx ρ2 => exact h1
  | _ => exact w_pure h1
theorem sExpr (h : W (evE C e ρ) S fun _ S1 => Q (.nx ρ) S1) : W (evS C (.expr e) ρ) S Q := w_bind (w_mono h fun _ S1 q => w_pure q)
theorem sRet (h : W (evE C e ρ) S fun v S1 => Q (.rt v) S1) : W (evS C (.ret e) ρ) S Q := w_bind (w_mono h fun _ S1 q => w_pure q)
theorem sIf (h : W (evT C c ρ) S fun t S1 => W (if t then evSs C x ρ else evSs C y ρ) S1 Q) : W (evS C (.ifs c x y) ρ) S Q := w_bind h
theorem sSet {t : Tg} (h : W (evE C e ρ) S fun v S1 => ∃ ρ', asg t v ρ = some ρ' ∧ Q (.nx ρ') S1) : W (evS C (.set t e) ρ) S Q :=
  w_bind (w_mono h fun v S1 ⟨ρ', h1, q⟩ => w_bind (w_opt h1 (w_pure q)))
theorem sSub (h : W (evE C e ρ) S fun v S1 => W (evE C o ρ) S1 fun x S2 => W (evE C i ρ) S2 fun y S3 => W (setV x y v) S3 fun _ S4 => Q (.nx ρ) S4) : W (evS C (.sub o i e) ρ) S Q :=
  w_bind (w_mono h fun v S1 h1 => w_bind (w_mono h1 fun x S2 h2 => w_bind (w_mono h2 fun y S3 h3 => w_bind (w_mono h3 fun _ S4 q => w_pure q))))
theorem sAug {n : Nat} {op : Operator} {v : Val} (hv : ρ[n]? = some (some v)) (h : W (evE C e ρ) S fun w S1 => W (augV op v w) S1 fun z S2 => ∃ ρ', asg (.nam n) z ρ = some ρ' ∧ Q (.nx ρ') S2) : W (evS C (.aug n op e) ρ) S Q := by
  refine w_bind (m := varM ρ n) ⟨v, S, by unfold varM; rw [hv]; rfl, ?_⟩
  exact w_bind (w_mono h fun w S1 h1 => w_bind (w_mono h1 fun z S2 ⟨ρ', h2, q⟩ => w_bind (w_opt h2 (w_pure q))))
theorem sAugs {op : Operator} (h : W (evE C o ρ) S fun x S1 => W (evE C i ρ) S1 fun y S2 => W (getM x y) S2 fun a S3 => W (evE C e ρ) S3 fun b S4 => W (augV op a b) S4 fun z S5 => W (setV x y z) S5 fun _ S6 => Q (.nx ρ) S6) : W (evS C (.augs o i op e) ρ) S Q :=
  w_bind (w_mono h fun v S1 h1 => w_bind (w_mono h1 fun x S2 h2 => w_bind (w_mono h2 fun y S3 h3 => w_bind (w_mono h3 fun _ S4 h4 => w_bind (w_mono h4 fun _ S5 h5 => w_bind (w_mono h5 fun _ S6 q => w_pure q))))))
theorem sFor {t : Tg} {it : It} (h : W (evI C it ρ) S fun w S1 => W (forLoop w t (evSs C x) w.xs ρ) S1 Q) : W (evS C (.for_ t it x) ρ) S Q := w_bind (m := evI C it ρ) h
theorem sWhl (h : W (whlLoop (evT C c) (evSs C x) C.gas ρ) S Q) : W (evS C (.whl c x) ρ) S Q := h
theorem sPass (h : Q (.nx ρ) S) : W (evS C .pass ρ) S Q := w_pure h
theorem sBrk (h : Q (.bk ρ) S) : W (evS C .brk ρ) S Q := w_pure h
theorem sCnt (h : Q (.ct ρ) S) : W (evS C .cnt ρ) S Q := w_pure h
/-- a call's end -/
def Ret (Q : Val → Sto → Prop) (f : Flo) (S : Sto) : Prop := match f with
  | .nx _ => Q .non S
  | .rt v => Q v S
  | _ => False
theorem w_run {f : Fn} {vs : List Val} {Q : Val → Sto → Prop} (hl : vs.length = f.ps.length) (h : W (evSs C f.body (start f.N.length vs)) S (Ret Q)) : W (runFn C f vs) S Q := by
  refine w_bind (w_guard (decide_eq_true hl) (w_bind (w_mono h fun r S1 h1 => ?_)))
  cases r with
  | nx _ => exact w_pure h1
  | rt v => exact w_pure h1
  | bk _ => exact h1.elim
  | ct _ => exact h1.elim
theorem w_sem {D : List Fn} {glo : Str → Option Val} {scr : List Int} {gas n : Nat} {g : Str} {f : Fn} {vs : List Val} {Q : Val → Sto → Prop} (hf : D.find? (fun f => decide (f.name = g)) = some f) (hl : vs.length = f.ps.length)
    (h : W (evSs ⟨sem D glo scr gas n, glo, scr, gas⟩ f.body (start f.N.length vs)) S (Ret Q)) : W (sem D glo scr gas (n + 1) g vs) S Q := by
  have e : sem D glo scr gas (n + 1) g vs = runFn ⟨sem D glo scr gas n, glo, scr, gas⟩ f vs := by
    show (match D.find? (fun f => decide (f.name = g)) with | some f => runFn _ f vs | none => bad) = _
    rw [hf]
  rw [e]
  exact w_run hl h

/-! ### loops -/
theorem still_nil {Q : Unit → Sto → Prop} (h : Q () S) : W (still []) S Q := ⟨(), S, rfl, h⟩
theorem w_still {hs : List (Nat × List Val)} {Q : Unit → Sto → Prop} (hh : ∀ p ∈ hs, S[p.1]? = some (.lst p.2)) (h : Q () S) : W (still hs) S Q := by
  refine ⟨(), S, ?_, h⟩
  unfold still
  rw [if_pos]
  rw [List.all_eq_true]
  exact fun p hp => decide_eq_true (hh p hp)
/-- a for by an invariant of how many are done -/
theorem w_for {w : Walk} {t : Tg} {body : Env → M Flo} (I : Nat → Env → Sto → Prop) (hs : ∀ k x ρ S, w.xs[k]? = some x → I k ρ S → (∀ p ∈ w.held, S[p.1]? = some (.lst p.2)) ∧ ∃ ρ', asg t x ρ = some ρ' ∧ W (body ρ') S fun f S' => match f with
      | .nx ρ2 => I (k + 1) ρ2 S'
      | .ct ρ2 => I (k + 1) ρ2 S'
      | .bk ρ2 => Q (.nx ρ2) S'
      | .rt v => Q (.rt v) S')
    (hd : ∀ ρ S, I w.xs.length ρ S → (∀ p ∈ w.held, S[p.1]? = some (.lst p.2)) ∧ Q (.nx ρ) S) {ρ : Env} {S : Sto} (h0 : I 0 ρ S) : W (forLoop w t body w.xs ρ) S Q := by
  have go : ∀ (n k : Nat) (ρ : Env) (S : Sto), w.xs.length - k = n → k ≤ w.xs.length → I k ρ S → W (forLoop w t body (w.xs.drop k) ρ) S Q := by
    intro n
    induction n with
    | zero =>
      intro k ρ S hn hk h
      have : k = w.xs.length := by omega
      subst this
      rw [List.drop_length]
      obtain ⟨h1, q⟩ := hd ρ S h
      exact w_bind (w_still h1 (w_pure q))
    | succ n ih =>
      intro k ρ S hn hk h
      have hlt : k < w.xs.length := by omega
      rw [List.drop_eq_getElem_cons hlt]
      obtain ⟨h1, ρ', ha, hb⟩ := hs k w.xs[k] ρ S (by simp [hlt]) h
      refine w_bind (w_still h1 (w_bind (w_opt ha (w_bind (w_mono hb fun f S' hf => ?_)))))
      cases f with
      | nx ρ2 => exact ih (k + 1) ρ2 S' (by omega) (by omega) hf
      | ct ρ2 => exact ih (k + 1) ρ2 S' (by omega) (by omega) hf
      | bk ρ2 => exact w_pure hf
      | rt v => exact w_pure hf
  have := go _ 0 ρ S rfl (Nat.zero_le _) h0
  rwa [List.drop_zero] at this
/-- a comprehension by an invariant of how many are done and what was made -/
theorem w_com {w : Walk} {turn : Val → M (Option Val)} {Q : List Val → Sto → Prop} (I : Nat → List Val → Sto → Prop) (hs : ∀ k x acc S, w.xs[k]? = some x → I k acc S → (∀ p ∈ w.held, S[p.1]? = some (.lst p.2)) ∧ W (turn x) S fun r S' => match r with
      | some y => I (k + 1) (acc ++ [y]) S'
      | none => I (k + 1) acc S')
    (hd : ∀ acc S, I w.xs.length acc S → (∀ p ∈ w.held, S[p.1]? = some (.lst p.2)) ∧ Q acc S) {S : Sto} (h0 : I 0 [] S) : W (comLoop w turn w.xs) S Q := by
  have go : ∀ (n k : Nat) (acc : List Val) (S : Sto), w.xs.length - k = n → k ≤ w.xs.length → I k acc S → W (comLoop w turn (w.xs.drop k)) S fun ys S' => Q (acc ++ ys) S' := by
    intro n
    induction n with
    | zero =>
      intro k acc S hn hk h
      have : k = w.xs.length := by omega
      subst this
      rw [List.drop_length]
      obtain ⟨h1, q⟩ := hd acc S h
      exact w_bind (w_still h1 (w_pure (by simpa using q)))
    | succ n ih =>
      intro k acc S hn hk h
      have hlt : k < w.xs.length := by omega
      rw [List.drop_eq_getElem_cons hlt]
      obtain ⟨h1, hb⟩ := hs k w.xs[k] acc S (by simp [hlt]) h
      refine w_bind (w_still h1 (w_bind (w_mono hb fun r S' hf => ?_)))
      cases r with
      | some y => exact w_bind (w_mono (ih (k + 1) (acc ++ [y]) S' (by omega) (by omega) hf) fun ys S2 q => w_pure (by simpa using q))
      | none => exact w_bind (w_mono (ih (k + 1) acc S' (by omega) (by omega) hf) fun ys S2 q => w_pure q)
  have := go _ 0 [] S rfl (Nat.zero_le _) h0
  rw [List.drop_zero] at this
  exact w_mono this fun ys S' q => q
end

/-! ### the store -/
/-- all places but those of X stay -/
structure Fr (X : Nat → Prop) (S S' : Sto) : Prop where
  len : S.length ≤ S'.length
  keep : ∀ i, i < S.length → ¬X i → S'[i]? = S[i]?
section
variable {X Y : Nat → Prop} {S S' S'' : Sto}
theorem Fr.refl : Fr X S S := ⟨Nat.le_refl _, fun _ _ _ => rfl⟩
theorem Fr.trans (a : Fr X S S') (b : Fr X S' S'') : Fr X S S'' := ⟨Nat.le_trans a.len b.len, fun i h n => (b.keep i (Nat.lt_of_lt_of_le h a.len) n).trans (a.keep i h n)⟩
theorem Fr.mono (a : Fr X S S') (h : ∀ i, X i → Y i) : Fr Y S S' := ⟨a.len, fun i hi n => a.keep i hi fun x => n (h i x)⟩
theorem Fr.alloc {o : Ob} : Fr X S (S ++ [o]) := ⟨by simp, fun i h _ => List.getElem?_append_left h⟩
theorem Fr.set {n : Nat} {o : Ob} (h : X n) : Fr X S (S.set n o) := ⟨by simp, fun i _ k => List.getElem?_set_ne (fun (z : n = i) => k (z ▸ h))⟩
theorem Fr.get (a : Fr X S S') {i : Nat} {o : Ob} (h : S[i]? = some o) (n : ¬X i) : S'[i]? = some o := by
  rw [a.keep i (List.getElem?_eq_some_iff.mp h).1 n]; exact h
end

/-! ### data -/
mutual
/-- v is the data d, and nothing of it lies at a place of X -/
inductive Rd (X : Nat → Prop) (S : Sto) : Val → PyData → Prop
  | non : Rd X S .non .none
  | bl (b : Bool) : Rd X S (.bl b) (.bool b)
  | int (i : Int) : Rd X S (.int i) (.int i)
  | str (x : Str) : Rd X S (.str x) (.str x)
  | tup {xs : List Val} {ds : List PyData} : RdL X S xs ds → Rd X S (.tup xs) (.tuple ds)
  | lst {n : Nat} {xs : List Val} {ds : List PyData} : S[n]? = some (.lst xs) → ¬X n → RdL X S xs ds → Rd X S (.loc n) (.list ds)
inductive RdL (X : Nat → Prop) (S : Sto) : List Val → List PyData → Prop
  | nil : RdL X S [] []
  | cons {x : Val} {d : PyData} {xs : List Val} {ds : List PyData} : Rd X S x d → RdL X S xs ds → RdL X S (x :: xs) (d :: ds)
end
section
variable {X Y : Nat → Prop} {S S' : Sto}
mutual
theorem Rd.fr (f : Fr X S S') : ∀ {v : Val} {d : PyData}, Rd X S v d → Rd X S' v d
  | _, _, .non => .non
  | _, _, .bl b => .bl b
  | _, _, .int i => .int i
  | _, _, .str x => .str x
  | _, _, .tup h => .tup (RdL.fr f h)
  | _, _, .lst h n r => .lst (f.get h n) n (RdL.fr f r)
theorem RdL.fr (f : Fr X S S') : ∀ {v : List Val} {d : List PyData}, RdL X S v d → RdL X S' v d
  | _, _, .nil => .nil
  | _, _, .cons h t => .cons (Rd.fr f h) (RdL.fr f t)
end
mutual
theorem Rd.weak (f : ∀ i, Y i → X i) : ∀ {v : Val} {d : PyData}, Rd X S v d → Rd Y S v d
  | _, _, .non => .non
  | _, _, .bl b => .bl b
  | _, _, .int i => .int i
  | _, _, .str x => .str x
  | _, _, .tup h => .tup (RdL.weak f h)
  | _, _, .lst h n r => .lst h (fun y => n (f _ y)) (RdL.weak f r)
theorem RdL.weak (f : ∀ i, Y i → X i) : ∀ {v : List Val} {d : List PyData}, RdL X S v d → RdL Y S v d
  | _, _, .nil => .nil
  | _, _, .cons h t => .cons (Rd.weak f h) (RdL.weak f t)
end
theorem RdL.append : ∀ {xs ys : List Val} {ds es : List PyData}, RdL X S xs ds → RdL X S ys es → RdL X S (xs ++ ys) (ds ++ es)
  | _, _, _, _, .nil, h => h
  | _, _, _, _, .cons h t, h2 => .cons h (RdL.append t h2)
theorem RdL.length : ∀ {xs : List Val} {ds : List PyData}, RdL X S xs ds → xs.length = ds.length
  | _, _, .nil => rfl
  | _, _, .cons _ t => by simp [RdL.length t]
theorem RdL.get : ∀ {xs : List Val} {ds : List PyData} {i : Nat} {x : Val}, RdL X S xs ds → xs[i]? = some x → ∃ d, ds[i]? = some d ∧ Rd X S x d
  | _, _, 0, _, .cons h _, e => by cases e; exact ⟨_, rfl, h⟩
  | _, _, i + 1, _, .cons _ t, e => RdL.get (i := i) t e
theorem RdL.take : ∀ {xs : List Val} {ds : List PyData} (n : Nat), RdL X S xs ds → RdL X S (xs.take n) (ds.take n)
  | _, _, 0, _ => by simpa using .nil
  | _, _, n + 1, .nil => by simpa using .nil
  | _, _, n + 1, .cons h t => .cons h (RdL.take n t)
theorem RdL.drop : ∀ {xs : List Val} {ds : List PyData} (n : Nat), RdL X S xs ds → RdL X S (xs.drop n) (ds.drop n)
  | _, _, 0, h => h
  | _, _, n + 1, .nil => .nil
  | _, _, n + 1, .cons h t => RdL.drop n t
mutual
theorem Rd.deep : ∀ {v : Val} {d : PyData} (n : Nat), Rd X S v d → d.depth ≤ n → Ev.deep n S v = some d
  | _, _, n, .non, _ => by cases n <;> rfl
  | _, _, n, .bl b, _ => by cases n <;> rfl
  | _, _, n, .int i, _ => by cases n <;> rfl
  | _, _, n, .str x, _ => by cases n <;> rfl
  | _, _, 0, .tup h, k => by simp [PyData.depth] at k
  | _, _, n + 1, .tup h, k => by
    have := RdL.deep n h (by simp [PyData.depth] at k; omega)
    show (_ : Option (List PyData)).map _ = _
    rw [this]; rfl
  | _, _, 0, .lst h _ _, k => by simp [PyData.depth] at k
  | _, _, n + 1, .lst (n := a) h _ r, k => by
    have := RdL.deep n r (by simp [PyData.depth] at k; omega)
    show (match S[a]? with | some (.lst xs) => (xs.mapM (Ev.deep n S)).map PyData.list | _ => none) = _
    rw [h]
    show (_ : Option (List PyData)).map _ = _
    rw [this]; rfl
theorem RdL.deep : ∀ {v : List Val} {d : List PyData} (n : Nat), RdL X S v d → PyData.depthAll d ≤ n → v.mapM (Ev.deep n S) = some d
  | _, _, n, .nil, _ => rfl
  | _, _, n, .cons h t, k => by
    have h1 := Rd.deep n h (by simp [PyData.depthAll] at k; omega)
    have h2 := RdL.deep n t (by simp [PyData.depthAll] at k; omega)
    rw [List.mapM_cons, h1, h2]
    rfl
end
theorem Rd.dat {v : Val} {d : PyData} (h : Rd X S v d) (k : d.depth ≤ 70) : Ev.dat S v = some d := by
  unfold Ev.dat
  exact h.deep 70 k
end
end Ev

end

section
set_option exponentiation.threshold 5000
/-! P1: how long a text of data is; rules of values. -/
namespace Ev
open PySem PyProof.Rows

mutual
/-- a bound of the text's length -/
def wt : PyData → Nat
  | .none => 5
  | .bool _ => 5
  | .int i => i.natAbs.log2 + 3
  | .str x => 10 * x.length + 2
  | .list xs => wts xs + 3
  | .tuple xs => wts xs + 3
  | .dict _ => 0
def wts : List PyData → Nat
  | [] => 0
  | x :: xs => wt x + 2 + wts xs
end
theorem int_len (i : Int) : (Str.ofString (toString i)).length ≤ i.natAbs.log2 + 3 := by
  have hn : ∀ n : Nat, (Nat.toDigits 10 n).length ≤ n.log2 + 1 := fun n => by
    refine digits10_le (by omega) ?_
    refine Nat.lt_of_lt_of_le (Nat.lt_log2_self) (Nat.pow_le_pow_left (by omega) _)
  have hs : ∀ s : String, (Str.ofString s).length = s.toList.length := fun s => by
    rw [Str.ofString_eq_toList]; simp [Str.length]
  cases i with
  | ofNat m =>
    have e := text_ofNat m
    have := hn m
    rw [e]
    simp only [Str.length, List.size_toArray, List.length_map]
    show _ ≤ m.log2 + 3
    omega
  | negSucc m =>
    have e : (toString (Int.negSucc m)) = "-" ++ Nat.repr (m + 1) := rfl
    rw [hs, e, String.toList_append, List.length_append]
    have h1 : (Nat.repr (m + 1)).toList.length = (Nat.toDigits 10 (m + 1)).length := by
      unfold Nat.repr; simp
    rw [h1]
    have := hn (m + 1)
    show ("-" : String).toList.length + _ ≤ (m + 1).log2 + 3
    have : ("-" : String).toList.length = 1 := by decide
    omega
mutual
theorem shown_wt : ∀ d : PyData, d.canLay0 = true → d.shown.length ≤ wt d
  | .none, _ => by simp only [PyData.shown, wt]; decide
  | .bool b, _ => by cases b <;> simp only [PyData.shown, wt] <;> decide
  | .int i, _ => by simp only [PyData.shown, wt]; exact int_len i
  | .str x, h => by
    simp only [PyData.shown, wt]
    refine StrLaws.reprText_len x fun c hc => ?_
    simp only [PyData.canLay0] at h
    have h2 : x.cps.all (· < 0x110000) = true := h
    rw [Array.all_eq_true'] at h2
    have := h2 c (by simpa using hc)
    simp at this
    omega
  | .list xs, h => by
    simp only [PyData.canLay0] at h
    have := showns_wt xs h
    have h2 := listText_len_le (PyData.shownAll xs)
    simp only [PyData.shown, wt]
    omega
  | .tuple xs, h => by
    simp only [PyData.canLay0] at h
    have := showns_wt xs h
    have h2 := tupleText_len_le (PyData.shownAll xs)
    simp only [PyData.shown, wt]
    omega
  | .dict _, h => by simp [PyData.canLay0] at h
theorem showns_wt : ∀ ds : List PyData, PyData.canLayAll0 ds = true → ((PyData.shownAll ds).map (·.length)).sum + 2 * (PyData.shownAll ds).length ≤ wts ds
  | [], _ => by simp [PyData.shownAll, wts]
  | d :: ds, h => by
    simp only [PyData.canLayAll0, Bool.and_eq_true] at h
    have h1 := shown_wt d h.1
    have h2 := showns_wt ds h.2
    simp only [PyData.shownAll, wts, List.map_cons, List.sum_cons, List.length_cons]
    omega
end

mutual
/-- every number is below 2^b -/
def numB (b : Nat) : PyData → Bool
  | .int i => decide (i.natAbs < 2 ^ b)
  | .list xs => numsB b xs
  | .tuple xs => numsB b xs
  | _ => true
def numsB (b : Nat) : List PyData → Bool
  | [] => true
  | x :: xs => numB b x && numsB b xs
end
mutual
theorem numB_mono {a b : Nat} (h : a ≤ b) : ∀ d : PyData, numB a d = true → numB b d = true
  | .int i, k => by
    simp only [numB, decide_eq_true_eq] at k ⊢
    exact Nat.lt_of_lt_of_le k (Nat.pow_le_pow_right (by omega) h)
  | .list xs, k => by simp only [numB] at k ⊢; exact numsB_mono h xs k
  | .tuple xs, k => by simp only [numB] at k ⊢; exact numsB_mono h xs k
  | .none, _ => rfl
  | .bool _, _ => rfl
  | .str _, _ => rfl
  | .dict _, _ => rfl
theorem numsB_mono {a b : Nat} (h : a ≤ b) : ∀ d : List PyData, numsB a d = true → numsB b d = true
  | [], _ => rfl
  | x :: xs, k => by
    simp only [numsB, Bool.and_eq_true] at k ⊢
    exact ⟨numB_mono h x k.1, numsB_mono h xs k.2⟩
end
mutual
theorem sho_of {b : Nat} (h : b ≤ 1920) : ∀ d : PyData, d.canLay0 = true → numB b d = true → d.showable = true
  | .int i, _, k => by
    simp only [numB, decide_eq_true_eq] at k
    simp only [PyData.showable, decide_eq_true_eq]
    by_cases h0 : i.natAbs = 0
    · rw [h0]; decide
    · have := (Nat.log2_lt h0).mpr k; omega
  | .list xs, l, k => by simp only [numB] at k; simp only [PyData.showable]; exact shos_of h xs l k
  | .tuple xs, l, k => by simp only [numB] at k; simp only [PyData.showable]; exact shos_of h xs l k
  | .none, _, _ => rfl
  | .bool _, _, _ => rfl
  | .str _, _, _ => rfl
  | .dict _, l, _ => by cases l
theorem shos_of {b : Nat} (h : b ≤ 1920) : ∀ d : List PyData, PyData.canLayAll0 d = true → numsB b d = true → PyData.showableAll d = true
  | [], _, _ => rfl
  | x :: xs, l, k => by
    simp only [numsB, PyData.canLayAll0, Bool.and_eq_true] at l k
    simp only [PyData.showableAll, Bool.and_eq_true]
    exact ⟨sho_of h x l.1 k.1, shos_of h xs l.2 k.2⟩
end
/-- data of at most k storeys, a text of at most w signs, numbers below 2^b -/
structure Fit (k w b : Nat) (d : PyData) : Prop where
  lay : d.canLay0 = true
  num : numB b d = true
  dep : d.depth ≤ k
  wei : wt d ≤ w
structure Fits (k w b : Nat) (ds : List PyData) : Prop where
  lay : PyData.canLayAll0 ds = true
  num : numsB b ds = true
  dep : PyData.depthAll ds ≤ k
  wei : wts ds ≤ w
section
variable {k w b k' w' b' : Nat} {d : PyData} {ds es : List PyData}
theorem Fit.mono (h : Fit k w b d) (x : k ≤ k') (y : w ≤ w') (z : b ≤ b') : Fit k' w' b' d := ⟨h.lay, numB_mono z d h.num, Nat.le_trans h.dep x, Nat.le_trans h.wei y⟩
theorem Fits.mono (h : Fits k w b ds) (x : k ≤ k') (y : w ≤ w') (z : b ≤ b') : Fits k' w' b' ds := ⟨h.lay, numsB_mono z ds h.num, Nat.le_trans h.dep x, Nat.le_trans h.wei y⟩
theorem Fits.nil : Fits k w b [] := ⟨rfl, rfl, Nat.zero_le _, Nat.zero_le _⟩
theorem Fits.cons (h : Fit k w b d) (t : Fits k w' b ds) : Fits k (w + 2 + w') b (d :: ds) :=
  ⟨by simp [PyData.canLayAll0, h.lay, t.lay], by simp [numsB, h.num, t.num], by simp only [PyData.depthAll]; exact Nat.max_le.mpr ⟨h.dep, t.dep⟩, by simp only [wts]; have := h.wei; have := t.wei; omega⟩
theorem Fits.unc (h : Fits k w b (d :: ds)) : ∃ w1 w2, w1 + 2 + w2 = w ∧ Fit k w1 b d ∧ Fits k w2 b ds := by
  obtain ⟨x, y, c, e⟩ := h
  simp only [PyData.canLayAll0, numsB, PyData.depthAll, wts, Bool.and_eq_true, Nat.max_le] at x y c e
  exact ⟨wt d, w - (wt d + 2), by omega, ⟨x.1, y.1, c.1, Nat.le_refl _⟩, ⟨x.2, y.2, c.2, by omega⟩⟩
theorem Fits.of_cons (h : Fits k w b (d :: ds)) : Fit k w b d ∧ Fits k w b ds := by
  obtain ⟨w1, w2, e, h1, h2⟩ := h.unc
  exact ⟨h1.mono (Nat.le_refl _) (by omega) (Nat.le_refl _), h2.mono (Nat.le_refl _) (by omega) (Nat.le_refl _)⟩
theorem Fits.append : ∀ {ds : List PyData}, ∀ {w : Nat}, Fits k w b ds → Fits k w' b es → Fits k (w + w') b (ds ++ es)
  | [], w, _, h2 => h2.mono (Nat.le_refl _) (by omega) (Nat.le_refl _)
  | d :: ds, w, h1, h2 => by
    obtain ⟨w1, w2, e, h3, h4⟩ := h1.unc
    exact (Fits.cons h3 (Fits.append h4 h2)).mono (Nat.le_refl _) (by omega) (Nat.le_refl _)
theorem Fits.take : ∀ {ds : List PyData} {w : Nat} (n : Nat), Fits k w b ds → Fits k w b (ds.take n)
  | _, _, 0, _ => by simpa using Fits.nil
  | [], _, n + 1, h => by simpa using h
  | d :: ds, w, n + 1, h => by
    obtain ⟨w1, w2, e, h3, h4⟩ := h.unc
    exact (Fits.cons h3 (Fits.take n h4)).mono (Nat.le_refl _) (by omega) (Nat.le_refl _)
theorem Fits.drop : ∀ {ds : List PyData} {w : Nat} (n : Nat), Fits k w b ds → Fits k w b (ds.drop n)
  | _, _, 0, h => h
  | [], _, n + 1, h => by simpa using h
  | d :: ds, w, n + 1, h => by exact Fits.drop (ds := ds) n h.of_cons.2
theorem Fits.get : ∀ {ds : List PyData} {i : Nat} {d : PyData}, Fits k w b ds → ds[i]? = some d → Fit k w b d
  | _ :: _, 0, _, h, e => by cases e; exact h.of_cons.1
  | _ :: ds, i + 1, _, h, e => Fits.get (ds := ds) (i := i) h.of_cons.2 e
theorem Fit.tup (h : Fits k w b ds) : Fit (k + 1) (w + 3) b (.tuple ds) := ⟨h.lay, by simp only [numB]; exact h.num, by simp only [PyData.depth]; have := h.dep; omega, by simp only [wt]; have := h.wei; omega⟩
theorem Fit.lst (h : Fits k w b ds) : Fit (k + 1) (w + 3) b (.list ds) := ⟨h.lay, by simp only [numB]; exact h.num, by simp only [PyData.depth]; have := h.dep; omega, by simp only [wt]; have := h.wei; omega⟩
theorem Fit.of_tup (h : Fit k w b (.tuple ds)) : ∃ k1 w1, k1 + 1 = k ∧ w1 + 3 = w ∧ Fits k1 w1 b ds := by
  have h1 := h.dep; have h2 := h.wei; have h3 := h.num
  simp only [PyData.depth] at h1
  simp only [wt] at h2
  simp only [numB] at h3
  exact ⟨k - 1, w - 3, by omega, by omega, ⟨h.lay, h3, by omega, by omega⟩⟩
theorem Fit.of_lst (h : Fit k w b (.list ds)) : ∃ k1 w1, k1 + 1 = k ∧ w1 + 3 = w ∧ Fits k1 w1 b ds := by
  have h1 := h.dep; have h2 := h.wei; have h3 := h.num
  simp only [PyData.depth] at h1
  simp only [wt] at h2
  simp only [numB] at h3
  exact ⟨k - 1, w - 3, by omega, by omega, ⟨h.lay, h3, by omega, by omega⟩⟩
theorem Fit.non : Fit k 5 b .none := ⟨rfl, rfl, Nat.zero_le _, Nat.le_refl _⟩
theorem Fit.bl {c : Bool} : Fit k 5 b (.bool c) := ⟨rfl, rfl, Nat.zero_le _, Nat.le_refl _⟩
theorem Fit.int {i : Int} (h : i.natAbs < 2 ^ b) : Fit k (b + 3) b (.int i) := ⟨rfl, by simp only [numB]; exact decide_eq_true h, Nat.zero_le _, by
  simp only [wt]
  by_cases h0 : i.natAbs = 0
  · rw [h0]
    show 0 + 3 ≤ b + 3
    omega
  · have := (Nat.log2_lt h0).mpr h; omega⟩
theorem Fit.str {x : Str} (h : PyData.strOk x = true) {n : Nat} (hn : x.length ≤ n) : Fit k (10 * n + 2) b (.str x) := ⟨h, rfl, Nat.zero_le _, by simp only [wt]; omega⟩
theorem Fit.shaped (h : Fit k w b d) (hk : k ≤ 64) : SeqAt.shaped d = true := by
  unfold SeqAt.shaped
  rw [Bool.and_eq_true]
  exact ⟨h.lay, decide_eq_true (Nat.le_trans h.dep hk)⟩
end
/-- repr -/
theorem w_repr {X : Nat → Prop} {S : Sto} {v : Val} {d : PyData} {k w b : Nat} {Q : Val → Sto → Prop} (r : Rd X S v d) (h : Fit k w b d) (hk : k ≤ 64) (hb : b ≤ 1920) (hw : w ≤ sizeLine) (q : Q (.str d.shown) S) : W (biV "repr" [v]) S Q := by
  refine ⟨_, S, ?_, q⟩
  show reprV [v] S = _
  unfold reprV
  have e := r.dat (Nat.le_trans h.dep (by omega))
  simp only [e]
  rw [if_pos]
  rw [Bool.and_eq_true, Bool.and_eq_true]
  exact ⟨⟨sho_of hb d h.lay h.num, decide_eq_true (Nat.le_trans (shown_wt d h.lay) (Nat.le_trans h.wei hw))⟩, decide_eq_true (Nat.le_trans h.dep hk)⟩
section
variable {S : Sto} {Q : Val → Sto → Prop}
theorem vTruB {b : Bool} {Q : Bool → Sto → Prop} (q : Q b S) : W (tru (.bl b)) S Q := ⟨_, _, rfl, q⟩
theorem vAdd {i j : Int} (q : Q (.int (i + j)) S) : W (binV .Add (.int i) (.int j)) S Q := ⟨_, _, rfl, q⟩
theorem vSub {i j : Int} (q : Q (.int (i - j)) S) : W (binV .Sub (.int i) (.int j)) S Q := ⟨_, _, rfl, q⟩
theorem vMul {i j : Int} (h : mulOk i j = true) (q : Q (.int (i * j)) S) : W (binV .Mult (.int i) (.int j)) S Q := by
  refine ⟨_, S, ?_, q⟩
  show (match (if mulOk i j then some (i * j) else none) with | some k => pure (.int k) | none => bad : M Val) S = _
  rw [if_pos h]; rfl
theorem vMod {i j : Int} (h : 0 < j) (q : Q (.int (i % j)) S) : W (binV .Mod (.int i) (.int j)) S Q := by
  refine ⟨_, S, ?_, q⟩
  show (if 0 < j then pure (.int (i % j)) else bad : M Val) S = _
  rw [if_pos h]; rfl
theorem vDiv {i j : Int} (h : 0 < j) (h2 : j.natAbs.log2 < 9000) (q : Q (.int (i / j)) S) : W (binV .FloorDiv (.int i) (.int j)) S Q := by
  refine ⟨_, S, ?_, q⟩
  show (if divOk j then pure (.int (i / j)) else bad : M Val) S = _
  rw [if_pos (by unfold divOk; simp [h, h2])]; rfl
theorem vPow {i j : Int} (h : powOk i j = true) (q : Q (.int (i ^ j.toNat)) S) : W (binV .Pow (.int i) (.int j)) S Q := by
  refine ⟨_, S, ?_, q⟩
  show (if powOk i j then pure (.int (i ^ j.toNat)) else bad : M Val) S = _
  rw [if_pos h]; rfl
theorem vNegI {i : Int} (q : Q (.int (-i)) S) : W (negM (.int i)) S Q := ⟨_, _, rfl, q⟩
theorem vLtI {i j : Int} (q : Q (.bl (decide (i < j))) S) : W (cmpV .Lt (.int i) (.int j)) S Q := ⟨_, _, rfl, q⟩
theorem vGtI {i j : Int} (q : Q (.bl (decide (j < i))) S) : W (cmpV .Gt (.int i) (.int j)) S Q := ⟨_, _, rfl, q⟩
theorem vLeI {i j : Int} (q : Q (.bl (!decide (j < i))) S) : W (cmpV .LtE (.int i) (.int j)) S Q := ⟨_, _, rfl, q⟩
theorem vGeI {i j : Int} (q : Q (.bl (!decide (i < j))) S) : W (cmpV .GtE (.int i) (.int j)) S Q := ⟨_, _, rfl, q⟩
theorem vEqI {i j : Int} (q : Q (.bl (decide (i = j))) S) : W (cmpV .Eq (.int i) (.int j)) S Q := ⟨_, _, rfl, q⟩
theorem vEqS {i j : Str} (q : Q (.bl (decide (i = j))) S) : W (cmpV .Eq (.str i) (.str j)) S Q := ⟨_, _, rfl, q⟩
/-- a list's item -/
theorem vIdxL {n : Nat} {xs : List Val} {k : Int} {v : Val} (h : S[n]? = some (.lst xs)) (e : L2.atI xs k = some v) (q : Q v S) : W (idxV (.loc n) (.int k)) S Q := by
  refine ⟨v, S, ?_, q⟩
  unfold idxV
  simp only [h, e]
theorem vGetL {n : Nat} {xs : List Val} {k : Int} {v : Val} (h : S[n]? = some (.lst xs)) (e : L2.atI xs k = some v) (q : Q v S) : W (getM (.loc n) (.int k)) S Q := vIdxL h e q
theorem vIdxT {xs : List Val} {k : Int} {v : Val} (e : L2.atI xs k = some v) (q : Q v S) : W (idxV (.tup xs) (.int k)) S Q := by
  refine ⟨v, S, ?_, q⟩
  unfold idxV
  simp only [e]
theorem vSetL {n : Nat} {xs : List Val} {k : Int} {j : Nat} {v : Val} {Q : Unit → Sto → Prop} (h : S[n]? = some (.lst xs)) (e : L2.ixN xs.length k = some j) (q : Q () (S.set n (.lst (xs.set j v)))) : W (setV (.loc n) (.int k) v) S Q := by
  refine ⟨(), _, ?_, q⟩
  unfold setV
  simp only [h, e]
theorem vAug {i j : Int} (q : Q (.int (i + j)) S) : W (augV .Add (.int i) (.int j)) S Q := ⟨_, _, rfl, q⟩
theorem vLenL {n : Nat} {xs : List Val} (h : S[n]? = some (.lst xs)) (q : Q (.int xs.length) S) : W (biV "len" [.loc n]) S Q := by
  refine ⟨_, S, ?_, q⟩
  show lenV [.loc n] S = _
  unfold lenV
  simp only [h]
theorem vLenT {xs : List Val} (q : Q (.int xs.length) S) : W (biV "len" [.tup xs]) S Q := ⟨_, _, rfl, q⟩
theorem vLenS {x : Str} (h : x.length ≤ sizeLine) (q : Q (.int x.length) S) : W (biV "len" [.str x]) S Q := by
  refine ⟨_, S, ?_, q⟩
  show lenV [.str x] S = _
  unfold lenV
  simp only [if_pos h]
theorem eqVal_dat {X Y : Nat → Prop} {a b : Val} {d e : PyData} {k w n k' w' n' : Nat} (ra : Rd X S a d) (rb : Rd Y S b e) (ha : Fit k w n d) (hb : Fit k' w' n' e) (h1 : k ≤ 64) (h2 : k' ≤ 64) : eqVal S a b = some (PyData.eqv d e) := by
  have da := ra.dat (Nat.le_trans ha.dep (by omega))
  have db := rb.dat (Nat.le_trans hb.dep (by omega))
  have main : eqDat (dat S a) (dat S b) = some (PyData.eqv d e) := by
    rw [da, db]
    unfold eqDat
    simp only [ha.shaped h1, hb.shaped h2, Bool.and_self, if_true]
  unfold eqVal
  split
  · cases ra; cases rb; simp only [PyData.eqv]
  · cases ra; cases rb; simp only [PyData.eqv]; rfl
  · rename_i x y; cases ra; cases rb; simp only [PyData.eqv]; cases x <;> cases y <;> rfl
  · cases ra; cases rb; simp only [PyData.eqv]; rfl
  · exact main
/-- == of data -/
theorem vEqD {X Y : Nat → Prop} {a b : Val} {d e : PyData} {k w n k' w' n' : Nat} (ra : Rd X S a d) (rb : Rd Y S b e) (ha : Fit k w n d) (hb : Fit k' w' n' e) (h1 : k ≤ 64) (h2 : k' ≤ 64) (q : Q (.bl (PyData.eqv d e)) S) : W (cmpV .Eq a b) S Q := by
  refine ⟨_, S, ?_, q⟩
  show (match eqVal S a b with | some c => Out.ok (Val.bl c) S | none => .bad) = _
  rw [eqVal_dat ra rb ha hb h1 h2]
theorem vNeD {X Y : Nat → Prop} {a b : Val} {d e : PyData} {k w n k' w' n' : Nat} (ra : Rd X S a d) (rb : Rd Y S b e) (ha : Fit k w n d) (hb : Fit k' w' n' e) (h1 : k ≤ 64) (h2 : k' ≤ 64) (q : Q (.bl (!PyData.eqv d e)) S) : W (cmpV .NotEq a b) S Q := by
  refine ⟨_, S, ?_, q⟩
  show (match (eqVal S a b).map (!·) with | some c => Out.ok (Val.bl c) S | none => .bad) = _
  rw [eqVal_dat ra rb ha hb h1 h2]
  rfl
theorem mulOk_of {i j : Int} (hi : i.natAbs < 2 ^ 4000) (hj : j.natAbs < 2 ^ 4000) : mulOk i j = true := by
  have log : ∀ n : Nat, n < 2 ^ 4000 → n.log2 < 4001 := fun n hn => by
    by_cases h0 : n = 0
    · subst h0; decide
    · have := (Nat.log2_lt h0).mpr hn; omega
  unfold mulOk
  have := log _ hi
  have := log _ hj
  exact decide_eq_true (by omega)
theorem small_of {i : Int} {k : Nat} (h1 : 0 ≤ i) (h2 : i < 2 ^ k) (hk : k ≤ 4000) : i.natAbs < 2 ^ 4000 := by
  have e : ((i.natAbs : Nat) : Int) = i := Int.natAbs_of_nonneg h1
  have : (i.natAbs : Int) < ((2 ^ k : Nat) : Int) := by rw [e]; simpa using h2
  have h3 : i.natAbs < 2 ^ k := by exact_mod_cast this
  exact Nat.lt_of_lt_of_le h3 (Nat.pow_le_pow_right (by omega) hk)
theorem atI_get {α : Type} {xs : List α} {k : Nat} {x : α} (h : xs[k]? = some x) : L2.atI xs (k : Int) = some x := by
  have hk : k < xs.length := (List.getElem?_eq_some_iff.mp h).1
  unfold L2.atI L2.ixN
  rw [if_pos (by omega), if_pos (by exact_mod_cast hk)]
  simpa using h
theorem atI_in {α : Type} {xs : List α} {k : Int} (h0 : 0 ≤ k) (h1 : k < xs.length) : ∃ x, L2.atI xs k = some x ∧ xs[k.toNat]? = some x := by
  obtain ⟨n, rfl⟩ := Int.eq_ofNat_of_zero_le h0
  have hn : n < xs.length := by exact_mod_cast h1
  exact ⟨xs[n], atI_get (by simp [hn]), by simp [hn]⟩
end
end Ev

end

section
/-! P3: more rules of values. -/
namespace Ev
open PySem PyProof.Rows
section
variable {S : Sto} {Q : Val → Sto → Prop}
/-! ### texts -/
/-- a text of at most n signs, each a code -/
structure SOk (n : Nat) (x : Str) : Prop where
  ok : PyData.strOk x = true
  len : x.length ≤ n
theorem SOk.mono {n m : Nat} {x : Str} (h : SOk n x) (k : n ≤ m) : SOk m x := ⟨h.ok, Nat.le_trans h.len k⟩
theorem strOk_iff {x : Str} : PyData.strOk x = true ↔ ∀ c ∈ x.cps.toList, c < 0x110000 := by
  show x.cps.all (· < 0x110000) = true ↔ _
  rw [← Array.all_toList, List.all_eq_true]
  simp
theorem SOk.app {n m : Nat} {x y : Str} (h : SOk n x) (k : SOk m y) : SOk (n + m) (x ++ y) := by
  refine ⟨strOk_iff.mpr fun c hc => ?_, by rw [strLen_append]; have := h.len; have := k.len; omega⟩
  have e : (x ++ y).cps.toList = x.cps.toList ++ y.cps.toList := by rw [Str.cps_append]; simp
  rw [e, List.mem_append] at hc
  rcases hc with hc | hc
  · exact strOk_iff.mp h.ok c hc
  · exact strOk_iff.mp k.ok c hc
theorem cut_sub {α : Type} {xs : List α} {l h : Option Int} {x : α} (hx : x ∈ cut xs l h) : x ∈ xs := by
  unfold cut at hx
  exact List.mem_of_mem_drop (List.mem_of_mem_take hx)
theorem cut_len {α : Type} {xs : List α} {l h : Option Int} : (cut xs l h).length ≤ xs.length := by
  unfold cut
  rw [List.length_take, List.length_drop]
  omega
theorem SOk.cut {n : Nat} {x : Str} {l h : Option Int} (k : SOk n x) : SOk n ⟨(Ev.cut x.cps.toList l h).toArray⟩ := by
  refine ⟨strOk_iff.mpr fun c hc => ?_, ?_⟩
  · have hc : c ∈ Ev.cut x.cps.toList l h := by simpa using hc
    exact strOk_iff.mp k.ok c (cut_sub hc)
  · show ((Ev.cut x.cps.toList l h).toArray).size ≤ n
    have := cut_len (xs := x.cps.toList) (l := l) (h := h)
    have e : x.cps.toList.length = x.length := by simp [Str.length]
    have := k.len
    simp only [List.size_toArray]
    omega
theorem SOk.at {n : Nat} {x : Str} {k : Int} {c : Nat} (h : SOk n x) (e : L2.atI x.cps.toList k = some c) : SOk 1 ⟨#[c]⟩ := by
  refine ⟨strOk_iff.mpr fun d hd => ?_, Nat.le_refl _⟩
  have hd : d = c := by simpa using hd
  subst hd
  unfold L2.atI at e
  cases h1 : L2.ixN x.cps.toList.length k with
  | none => rw [h1] at e; cases e
  | some j => rw [h1] at e; exact strOk_iff.mp h.ok d (List.mem_of_getElem? e)
theorem Fit.sok {k b n : Nat} {x : Str} (h : SOk n x) : Fit k (10 * n + 2) b (.str x) := Fit.str h.ok h.len

theorem vIdxS {x : Str} {k : Int} {c : Nat} (h : x.length ≤ sizeLine) (e : L2.atI x.cps.toList k = some c) (q : Q (.str ⟨#[c]⟩) S) : W (idxV (.str x) (.int k)) S Q := by
  refine ⟨_, S, ?_, q⟩
  unfold idxV
  simp only [if_pos h, e]
theorem vAddS {x y : Str} (h : x.length + y.length ≤ sizeLine) (q : Q (.str (x ++ y)) S) : W (binV .Add (.str x) (.str y)) S Q := by
  refine ⟨_, S, ?_, q⟩
  show (if x.length + y.length ≤ sizeLine then pure (.str (x ++ y)) else bad : M Val) S = _
  rw [if_pos h]; rfl
theorem vAddT {xs ys : List Val} (h : xs.length + ys.length ≤ sizeLine) (q : Q (.tup (xs ++ ys)) S) : W (binV .Add (.tup xs) (.tup ys)) S Q := by
  refine ⟨_, S, ?_, q⟩
  show (if xs.length + ys.length ≤ sizeLine then pure (.tup (xs ++ ys)) else bad : M Val) S = _
  rw [if_pos h]; rfl
theorem vAddL {n m : Nat} {xs ys : List Val} (h1 : S[n]? = some (.lst xs)) (h2 : S[m]? = some (.lst ys)) (h : xs.length + ys.length ≤ sizeLine) (q : Q (.loc S.length) (S ++ [.lst (xs ++ ys)])) : W (binV .Add (.loc n) (.loc m)) S Q := by
  refine ⟨_, _, ?_, q⟩
  show (match S[n]?, S[m]? with
    | some (.lst xs), some (.lst ys) => if xs.length + ys.length ≤ sizeLine then alloc (.lst (xs ++ ys)) S else .bad
    | _, _ => .bad) = _
  simp only [h1, h2, if_pos h]; rfl
theorem vSliT {scr : List Int} {nl nh : Bool} {xs : List Val} {l h : Val} {lo hi : Option Int} (e1 : endOf nl l = some lo) (e2 : endOf nh h = some hi) (q : Q (.tup (cut xs lo hi)) S) : W (sliM scr nl nh (.tup xs) l h) S Q := by
  refine ⟨_, S, ?_, q⟩
  unfold sliM
  rw [e1, e2]; rfl
theorem vSliS {scr : List Int} {nl nh : Bool} {x : Str} {l h : Val} {lo hi : Option Int} (hx : x.length ≤ sizeLine) (e1 : endOf nl l = some lo) (e2 : endOf nh h = some hi) (q : Q (.str ⟨(cut x.cps.toList lo hi).toArray⟩) S) : W (sliM scr nl nh (.str x) l h) S Q := by
  refine ⟨_, S, ?_, q⟩
  unfold sliM
  rw [e1, e2]
  show (if x.length ≤ sizeLine then pure (.str ⟨(cut x.cps.toList lo hi).toArray⟩) else bad : M Val) S = _
  rw [if_pos hx]; rfl
theorem vSliL {scr : List Int} {nl nh : Bool} {n : Nat} {xs : List Val} {l h : Val} {lo hi : Option Int} (hn : S[n]? = some (.lst xs)) (e1 : endOf nl l = some lo) (e2 : endOf nh h = some hi) (q : Q (.loc S.length) (S ++ [.lst (cut xs lo hi)])) : W (sliM scr nl nh (.loc n) l h) S Q := by
  refine ⟨_, _, ?_, q⟩
  unfold sliM
  rw [e1, e2]
  show (match S[n]? with | some (.lst xs) => alloc (.lst (cut xs lo hi)) S | _ => .bad) = _
  rw [hn]; rfl
theorem vSliC {scr : List Int} {nl nh : Bool} {l h : Val} {lo hi : Option Int} (e1 : endOf nl l = some lo) (e2 : endOf nh h = some hi) (q : Q (.loc S.length) (S ++ [.lst (cut (scr.map .int) lo hi)])) : W (sliM scr nl nh .scr l h) S Q := by
  refine ⟨_, _, ?_, q⟩
  unfold sliM
  rw [e1, e2]; rfl
/-! ### kinds of things -/
theorem vIsi {v : Val} {a b : String} {c : Bool} (h : tyName S v = some a) (e : isTy a b = some c) (q : Q (.bl c) S) : W (biV "isinstance" [v, .ty b]) S Q := by
  refine ⟨_, S, ?_, q⟩
  show isiV [v, .ty b] S = _
  unfold isiV
  simp only [h, e]
theorem vIsiNo {b : String} {c : Bool} (e : isTy "NoneType" b = some c) (q : Q (.bl c) S) : W (biV "isinstance" [.non, .ty b]) S Q := vIsi rfl e q
theorem vIsiBl {d : Bool} {b : String} {c : Bool} (e : isTy "bool" b = some c) (q : Q (.bl c) S) : W (biV "isinstance" [.bl d, .ty b]) S Q := vIsi rfl e q
theorem vIsiIn {i : Int} {b : String} {c : Bool} (e : isTy "int" b = some c) (q : Q (.bl c) S) : W (biV "isinstance" [.int i, .ty b]) S Q := vIsi rfl e q
theorem vIsiSt {x : Str} {b : String} {c : Bool} (e : isTy "str" b = some c) (q : Q (.bl c) S) : W (biV "isinstance" [.str x, .ty b]) S Q := vIsi rfl e q
theorem vIsiTu {xs : List Val} {b : String} {c : Bool} (e : isTy "tuple" b = some c) (q : Q (.bl c) S) : W (biV "isinstance" [.tup xs, .ty b]) S Q := vIsi rfl e q
theorem vIsiLi {n : Nat} {xs : List Val} {b : String} {c : Bool} (h : S[n]? = some (.lst xs)) (e : isTy "list" b = some c) (q : Q (.bl c) S) : W (biV "isinstance" [.loc n, .ty b]) S Q := vIsi (by unfold tyName; simp only [h]) e q
theorem Rd.ty {X : Nat → Prop} {v : Val} {d : PyData} (h : Rd X S v d) : ∃ a, tyName S v = some a ∧ a ∈ ["NoneType", "bool", "int", "str", "tuple", "list"] := by
  cases h with
  | non => exact ⟨_, rfl, by decide⟩
  | bl b => exact ⟨_, rfl, by decide⟩
  | int i => exact ⟨_, rfl, by decide⟩
  | str x => exact ⟨_, rfl, by decide⟩
  | tup _ => exact ⟨_, rfl, by decide⟩
  | lst h n r => exact ⟨"list", by unfold tyName; simp only [h], by decide⟩
/-- the kind of data -/
def tyOf : PyData → String
  | .none => "NoneType"
  | .bool _ => "bool"
  | .int _ => "int"
  | .str _ => "str"
  | .tuple _ => "tuple"
  | .list _ => "list"
  | .dict _ => "dict"
theorem Rd.tyOf {X : Nat → Prop} {v : Val} {d : PyData} (h : Rd X S v d) : tyName S v = some (tyOf d) := by
  cases h with
  | lst h n r => unfold tyName Ev.tyOf; simp only [h]
  | _ => rfl
def isK (d : PyData) (b : String) : Bool := (isTy (tyOf d) b).getD false
theorem vIsiD {X : Nat → Prop} {v : Val} {d : PyData} {b : String} (h : Rd X S v d) (hb : b ∈ ["bool", "int", "str", "tuple", "list"]) (q : Q (.bl (isK d b)) S) : W (biV "isinstance" [v, .ty b]) S Q := by
  refine vIsi h.tyOf ?_ q
  simp only [List.mem_cons, List.not_mem_nil, or_false] at hb
  cases h <;> rcases hb with rfl | rfl | rfl | rfl | rfl <;> rfl
theorem vIsB {v : Val} {c : Bool} (q : Q (.bl (decide (v = .bl c))) S) : W (cmpV .Is v (.bl c)) S Q := ⟨_, S, rfl, q⟩
theorem vIsNotB {v : Val} {c : Bool} (q : Q (.bl (!decide (v = .bl c))) S) : W (cmpV .IsNot v (.bl c)) S Q := ⟨_, S, rfl, q⟩
theorem vIsN {v : Val} (q : Q (.bl (decide (v = .non))) S) : W (cmpV .Is v .non) S Q := ⟨_, S, rfl, q⟩
theorem vIsNotN {v : Val} (q : Q (.bl (!decide (v = .non))) S) : W (cmpV .IsNot v .non) S Q := ⟨_, S, rfl, q⟩
theorem vInS {x y : Str} (q : Q (.bl (inStr x y)) S) : W (cmpV .In (.str x) (.str y)) S Q := ⟨_, S, rfl, q⟩
theorem vLtS {x y : Str} (q : Q (.bl (ltStr x y)) S) : W (cmpV .Lt (.str x) (.str y)) S Q := ⟨_, S, rfl, q⟩
theorem vLeS {x y : Str} (q : Q (.bl (!ltStr y x)) S) : W (cmpV .LtE (.str x) (.str y)) S Q := ⟨_, S, rfl, q⟩
/-! ### built-ins of sequences -/
theorem vTuple {k : Bool} {xs : List Val} (q : Q (.tup xs) S) : W (sqV "tuple" k xs) S Q := ⟨_, S, rfl, q⟩
theorem vList {k : Bool} {xs : List Val} (q : Q (.loc S.length) (S ++ [.lst xs])) : W (sqV "list" k xs) S Q := ⟨_, _, rfl, q⟩
theorem bols : ∀ bs : List Bool, bolsOf (bs.map Val.bl) = some bs
  | [] => rfl
  | b :: bs => by show (bolsOf (bs.map Val.bl)).map (b :: ·) = _; rw [bols bs]; rfl
theorem vAll {bs : List Bool} (q : Q (.bl (bs.all id)) S) : W (sqV "all" true (bs.map .bl)) S Q := by
  refine ⟨_, S, ?_, q⟩
  show (match bolsOf (bs.map Val.bl) with | some bs => pure (.bl (bs.all id)) | none => bad : M Val) S = _
  rw [bols]; rfl
theorem vAny {bs : List Bool} (q : Q (.bl (bs.any id)) S) : W (sqV "any" true (bs.map .bl)) S Q := by
  refine ⟨_, S, ?_, q⟩
  show (match bolsOf (bs.map Val.bl) with | some bs => pure (.bl (bs.any id)) | none => bad : M Val) S = _
  rw [bols]; rfl
theorem vSeqT {xs : List Val} {Q : Bool × List Val → Sto → Prop} (q : Q (false, xs) S) : W (seqM (.tup xs)) S Q := ⟨_, S, rfl, q⟩
theorem vSeqL {n : Nat} {xs : List Val} {Q : Bool × List Val → Sto → Prop} (h : S[n]? = some (.lst xs)) (q : Q (true, xs) S) : W (seqM (.loc n)) S Q := by
  refine ⟨_, S, ?_, q⟩
  unfold seqM seqOf
  simp only [h]
theorem vAbs {i : Int} (q : Q (.int (if i < 0 then -i else i)) S) : W (biV "abs" [.int i]) S Q := ⟨_, S, rfl, q⟩
theorem vMin {i j : Int} (q : Q (.int (if j < i then j else i)) S) : W (biV "min" [.int i, .int j]) S Q := ⟨_, S, rfl, q⟩
theorem vMax {i j : Int} (q : Q (.int (if j > i then j else i)) S) : W (biV "max" [.int i, .int j]) S Q := ⟨_, S, rfl, q⟩
theorem vStrI {i : Int} (h : i.natAbs < 2 ^ 1900) (q : Q (.str (toString i)) S) : W (biV "str" [.int i]) S Q := by
  refine ⟨_, S, ?_, q⟩
  show (if i.natAbs.log2 < 1920 then pure (.str (toString i)) else bad : M Val) S = _
  rw [if_pos]; rfl
  by_cases h0 : i.natAbs = 0
  · rw [h0]; decide
  · have := (Nat.log2_lt h0).mpr h; omega
/-! ### methods -/
theorem vTyL {n : Nat} {xs : List Val} {Q : String → Sto → Prop} (h : S[n]? = some (.lst xs)) (q : Q "list" S) : W (tyM (.loc n)) S Q := by
  refine ⟨_, S, ?_, q⟩
  unfold tyM tyName
  simp only [h]
theorem vTyS {x : Str} {Q : String → Sto → Prop} (q : Q "str" S) : W (tyM (.str x)) S Q := ⟨_, S, rfl, q⟩
theorem vApp {n : Nat} {xs : List Val} {v : Val} (h : S[n]? = some (.lst xs)) (hl : xs.length < sizeLine) (q : Q .non (S.set n (.lst (xs ++ [v])))) : W (metV "list" "append" (.loc n) [v]) S Q := by
  refine ⟨_, _, ?_, q⟩
  show appV (.loc n) [v] S = _
  unfold appV
  simp only [h, if_pos hl]
theorem vExt {n : Nat} {xs ys : List Val} (h : S[n]? = some (.lst xs)) (hl : xs.length + ys.length ≤ sizeLine) (q : Q .non (S.set n (.lst (xs ++ ys)))) : W (if "list" = "list" ∧ true = true then extV (.loc n) ys else bad) S Q := by
  refine ⟨_, _, ?_, q⟩
  rw [if_pos ⟨rfl, rfl⟩]
  unfold extV
  simp only [h, if_pos hl]
/-! ### what is walked -/
theorem vRng {i : Int} {Q : Walk → Sto → Prop} (h0 : 0 ≤ i) (h : i < 2 ^ 62) (q : Q ⟨(List.range i.toNat).map fun k => .int (k : Nat), []⟩ S) : W (rng1M (.int i)) S Q := by
  refine ⟨_, S, ?_, q⟩
  show (if rngOk i then pure ⟨rng 0 i, []⟩ else bad : M Walk) S = _
  rw [if_pos (by unfold rngOk; simp only [Bool.and_eq_true, decide_eq_true_eq]; exact ⟨by omega, h⟩)]
  have : rng 0 i = (List.range i.toNat).map fun k => Val.int (k : Nat) := by
    unfold rng
    simp
  rw [this]
  rfl
theorem vWalkL {n : Nat} {xs : List Val} {Q : Walk → Sto → Prop} (h : S[n]? = some (.lst xs)) (q : Q ⟨xs, [(n, xs)]⟩ S) : W (walkV (.loc n)) S Q := by
  refine ⟨_, S, ?_, q⟩
  unfold walkV seqOf held1
  simp only [h]
theorem vWalkT {xs : List Val} {Q : Walk → Sto → Prop} (q : Q ⟨xs, []⟩ S) : W (walkV (.tup xs)) S Q := ⟨_, S, rfl, q⟩
theorem vWalkS {x : Str} {Q : Walk → Sto → Prop} (q : Q ⟨signs x, []⟩ S) : W (walkV (.str x)) S Q := ⟨_, S, rfl, q⟩
theorem vZipL {n m : Nat} {xs ys : List Val} {Q : Walk → Sto → Prop} (h1 : S[n]? = some (.lst xs)) (h2 : S[m]? = some (.lst ys)) (q : Q ⟨(xs.zip ys).map fun p => .tup [p.1, p.2], [(n, xs), (m, ys)]⟩ S) : W (zipM (.loc n) (.loc m)) S Q := by
  refine ⟨_, S, ?_, q⟩
  unfold zipM seqOf held1
  simp only [h1, h2, if_true]
  rfl
theorem vRev {xs : List Val} (q : Q (.loc S.length) (S ++ [.lst xs.reverse])) : W (if (true, xs).1 then alloc (.lst (true, xs).2.reverse) else pure (.tup (true, xs).2.reverse)) S Q := ⟨_, _, rfl, q⟩
theorem vRevT {xs : List Val} (q : Q (.tup xs.reverse) S) : W (if (false, xs).1 then alloc (.lst (false, xs).2.reverse) else pure (.tup (false, xs).2.reverse)) S Q := ⟨_, _, rfl, q⟩
theorem vDict {k : Bool} {xs : List Val} {ps : List (L2.Key × Val)} (h : pairsOf xs = some ps) (q : Q (.loc S.length) (S ++ [.dic (dicOf ps)])) : W (sqV "dict" k xs) S Q := by
  refine ⟨_, _, ?_, q⟩
  show (match pairsOf xs with | some ps => alloc (.dic (dicOf ps)) | none => (bad : M Val)) S = _
  rw [h]; rfl
theorem vIdxD {n : Nat} {kvs : List (L2.Key × Val)} {x : Str} {v : Val} (h : S[n]? = some (.dic kvs)) (e : dicGet kvs (.inr x) = some v) (q : Q v S) : W (idxV (.loc n) (.str x)) S Q := by
  refine ⟨v, S, ?_, q⟩
  unfold idxV keyOf
  simp only [h, e]
theorem vInD {n : Nat} {kvs : List (L2.Key × Val)} {x : Str} (h : S[n]? = some (.dic kvs)) (q : Q (.bl (dicGet kvs (.inr x)).isSome) S) : W (cmpV .In (.str x) (.loc n)) S Q := by
  refine ⟨_, S, ?_, q⟩
  unfold cmpV cmpVal inVal keyOf
  simp only [h]
  rfl
theorem vNinD {n : Nat} {kvs : List (L2.Key × Val)} {x : Str} (h : S[n]? = some (.dic kvs)) (q : Q (.bl (!(dicGet kvs (.inr x)).isSome)) S) : W (cmpV .NotIn (.str x) (.loc n)) S Q := by
  refine ⟨_, S, ?_, q⟩
  unfold cmpV cmpVal inVal keyOf
  simp only [h]
  rfl
theorem vSum {ns : List Int} (q : Q (.int ns.sum) S) : W (sqV "sum" true (ns.map .int)) S Q := by
  have it_s : ∀ ns : List Int, intsOf (ns.map Val.int) = some ns := by
    intro ns
    induction ns with
    | nil => rfl
    | cons n ns ih => show (intsOf (ns.map Val.int)).map (n :: ·) = _; rw [ih]; rfl
  refine ⟨_, S, ?_, q⟩
  show (match intsOf (ns.map Val.int) with | some ns => pure (.int ns.sum) | none => bad : M Val) S = _
  rw [it_s]; rfl
theorem vIns {n : Nat} {xs : List Val} {v : Val} {i : Int} (h : S[n]? = some (.lst xs)) (hl : xs.length < sizeLine) (h0 : 0 ≤ i) (h1 : i < 2 ^ 63) (q : Q .non (S.set n (.lst (xs.take i.toNat ++ [v] ++ xs.drop i.toNat)))) : W (metV "list" "insert" (.loc n) [.int i, v]) S Q := by
  refine ⟨_, _, ?_, q⟩
  show insV (.loc n) [.int i, v] S = _
  unfold insV
  simp only [h]
  rw [if_pos ⟨hl, h0, h1⟩]
theorem vCntL {X Y : Nat → Prop} {v : Val} {n : Nat} {d : PyData} {ds : List PyData} {k w b k' w' b' : Nat} (r : Rd X S v d) (rs : Rd Y S (.loc n) (.list ds)) (h : Fit k w b d) (hs : Fit k' w' b' (.list ds)) (h1 : k ≤ 64) (h2 : k' ≤ 64) (q : Q (.int ((ds.countP fun z => PyData.eqv z d : Nat))) S) : W (metV "list" "count" (.loc n) [v]) S Q := by
  refine ⟨_, S, ?_, q⟩
  have e1 := r.dat (Nat.le_trans h.dep (by omega))
  have e2 := rs.dat (Nat.le_trans hs.dep (by omega))
  show cntL (.loc n) [v] S = _
  unfold cntL
  simp only [e1, e2, h.shaped h1, hs.shaped h2, Bool.and_self, if_true]
theorem vCntT {X Y : Nat → Prop} {v : Val} {xs : List Val} {d : PyData} {ds : List PyData} {k w b k' w' b' : Nat} (r : Rd X S v d) (rs : Rd Y S (.tup xs) (.tuple ds)) (h : Fit k w b d) (hs : Fit k' w' b' (.tuple ds)) (h1 : k ≤ 64) (h2 : k' ≤ 64) (q : Q (.int ((ds.countP fun z => PyData.eqv z d : Nat))) S) : W (metV "tuple" "count" (.tup xs) [v]) S Q := by
  refine ⟨_, S, ?_, q⟩
  have e1 := r.dat (Nat.le_trans h.dep (by omega))
  have e2 := rs.dat (Nat.le_trans hs.dep (by omega))
  show cntT (.tup xs) [v] S = _
  unfold cntT
  simp only [e1, e2, h.shaped h1, hs.shaped h2, Bool.and_self, if_true]
theorem vTyT {xs : List Val} {Q : String → Sto → Prop} (q : Q "tuple" S) : W (tyM (.tup xs)) S Q := ⟨_, S, rfl, q⟩
theorem vEnumT {xs : List Val} {Q : Walk → Sto → Prop} (q : Q ⟨xs.zipIdx.map fun p => .tup [.int (p.2 : Nat), p.1], []⟩ S) : W (enumM (.tup xs)) S Q := ⟨_, S, rfl, q⟩
theorem vEnumL {n : Nat} {xs : List Val} {Q : Walk → Sto → Prop} (h : S[n]? = some (.lst xs)) (q : Q ⟨xs.zipIdx.map fun p => .tup [.int (p.2 : Nat), p.1], [(n, xs)]⟩ S) : W (enumM (.loc n)) S Q := by
  refine ⟨_, S, ?_, q⟩
  unfold enumM seqOf held1
  simp only [h]
theorem vZipT {xs ys : List Val} {Q : Walk → Sto → Prop} (q : Q ⟨(xs.zip ys).map fun p => .tup [p.1, p.2], []⟩ S) : W (zipM (.tup xs) (.tup ys)) S Q := ⟨_, S, rfl, q⟩
theorem vIntB {c : Bool} (q : Q (.int (if c then 1 else 0)) S) : W (biV "int" [.bl c]) S Q := ⟨_, S, rfl, q⟩
theorem vAugS {i j : Int} (q : Q (.int (i - j)) S) : W (augV .Sub (.int i) (.int j)) S Q := ⟨_, _, rfl, q⟩
theorem vNeI {i j : Int} (q : Q (.bl (!decide (i = j))) S) : W (cmpV .NotEq (.int i) (.int j)) S Q := ⟨_, _, rfl, q⟩
theorem vNeS {i j : Str} (q : Q (.bl (!decide (i = j))) S) : W (cmpV .NotEq (.str i) (.str j)) S Q := ⟨_, _, rfl, q⟩
theorem inVal_tup {X Y : Nat → Prop} {v : Val} {xs : List Val} {d : PyData} {ds : List PyData} {k w b k' w' b' : Nat} (r : Rd X S v d) (rs : Rd Y S (.tup xs) (.tuple ds)) (h : Fit k w b d) (hs : Fit k' w' b' (.tuple ds)) (h1 : k ≤ 64) (h2 : k' ≤ 64) : inVal S v (.tup xs) = some (ds.any fun z => PyData.eqv z d) := by
  have e1 := r.dat (Nat.le_trans h.dep (by omega))
  have e2 := rs.dat (Nat.le_trans hs.dep (by omega))
  show inRow (dat S v) (dat S (.tup xs)) = _
  rw [e1, e2]
  unfold inRow
  simp only [h.shaped h1, hs.shaped h2, Bool.and_self, if_true]
theorem vInT {X Y : Nat → Prop} {v : Val} {xs : List Val} {d : PyData} {ds : List PyData} {k w b k' w' b' : Nat} (r : Rd X S v d) (rs : Rd Y S (.tup xs) (.tuple ds)) (h : Fit k w b d) (hs : Fit k' w' b' (.tuple ds)) (h1 : k ≤ 64) (h2 : k' ≤ 64) (q : Q (.bl (ds.any fun z => PyData.eqv z d)) S) : W (cmpV .In v (.tup xs)) S Q := by
  refine ⟨_, S, ?_, q⟩
  show (match inVal S v (.tup xs) with | some c => Out.ok (Val.bl c) S | none => .bad) = _
  rw [inVal_tup r rs h hs h1 h2]
theorem inRow_lst {d : PyData} {ds : List PyData} (h1 : SeqAt.shaped d = true) (h2 : SeqAt.shaped (.list ds) = true) : inRow (some d) (some (.list ds)) = some (ds.any fun z => PyData.eqv z d) := by
  unfold inRow
  simp only [h1, h2, Bool.and_self, if_true]
theorem inRow_tup {d : PyData} {ds : List PyData} (h1 : SeqAt.shaped d = true) (h2 : SeqAt.shaped (.tuple ds) = true) : inRow (some d) (some (.tuple ds)) = some (ds.any fun z => PyData.eqv z d) := by
  unfold inRow
  simp only [h1, h2, Bool.and_self, if_true]
theorem inVal_lst {X Y : Nat → Prop} {v : Val} {n : Nat} {d : PyData} {ds : List PyData} {k w b k' w' b' : Nat} (r : Rd X S v d) (rs : Rd Y S (.loc n) (.list ds)) (h : Fit k w b d) (hs : Fit k' w' b' (.list ds)) (h1 : k ≤ 64) (h2 : k' ≤ 64) : inVal S v (.loc n) = some (ds.any fun z => PyData.eqv z d) := by
  have e1 := r.dat (Nat.le_trans h.dep (by omega))
  have e2 := rs.dat (Nat.le_trans hs.dep (by omega))
  have main : inRow (dat S v) (dat S (.loc n)) = some (ds.any fun z => PyData.eqv z d) := by
    rw [e1, e2]; exact inRow_lst (h.shaped h1) (hs.shaped h2)
  cases rs with
  | lst g _ _ =>
    unfold inVal
    simp only [g]
    exact main
theorem vInL {X Y : Nat → Prop} {v : Val} {n : Nat} {d : PyData} {ds : List PyData} {k w b k' w' b' : Nat} (r : Rd X S v d) (rs : Rd Y S (.loc n) (.list ds)) (h : Fit k w b d) (hs : Fit k' w' b' (.list ds)) (h1 : k ≤ 64) (h2 : k' ≤ 64) (q : Q (.bl (ds.any fun z => PyData.eqv z d)) S) : W (cmpV .In v (.loc n)) S Q := by
  refine ⟨_, S, ?_, q⟩
  show (match inVal S v (.loc n) with | some c => Out.ok (Val.bl c) S | none => .bad) = _
  rw [inVal_lst r rs h hs h1 h2]
theorem vNinL {X Y : Nat → Prop} {v : Val} {n : Nat} {d : PyData} {ds : List PyData} {k w b k' w' b' : Nat} (r : Rd X S v d) (rs : Rd Y S (.loc n) (.list ds)) (h : Fit k w b d) (hs : Fit k' w' b' (.list ds)) (h1 : k ≤ 64) (h2 : k' ≤ 64) (q : Q (.bl (!(ds.any fun z => PyData.eqv z d))) S) : W (cmpV .NotIn v (.loc n)) S Q := by
  refine ⟨_, S, ?_, q⟩
  show (match (inVal S v (.loc n)).map (!·) with | some c => Out.ok (Val.bl c) S | none => .bad) = _
  rw [inVal_lst r rs h hs h1 h2]
  rfl
theorem vAddBI {c : Bool} {j : Int} (q : Q (.int ((if c then 1 else 0) + j)) S) : W (binV .Add (.bl c) (.int j)) S Q := ⟨_, S, rfl, q⟩
theorem vSubBI {c : Bool} {j : Int} (q : Q (.int ((if c then 1 else 0) - j)) S) : W (binV .Sub (.bl c) (.int j)) S Q := ⟨_, S, rfl, q⟩
theorem vNegB {c : Bool} (q : Q (.int (-(if c then 1 else 0))) S) : W (negM (.bl c)) S Q := ⟨_, S, rfl, q⟩
theorem cut_map {α β : Type} {f : α → β} {xs : List α} {l h : Option Int} : cut (xs.map f) l h = (cut xs l h).map f := by
  unfold cut
  rw [List.length_map, List.map_take, List.map_drop]
theorem RdL.cut {X : Nat → Prop} {xs : List Val} {ds : List PyData} {l h : Option Int} (r : RdL X S xs ds) : RdL X S (Ev.cut xs l h) (Ev.cut ds l h) := by
  unfold Ev.cut
  rw [r.length]
  exact (r.drop _).take _
theorem Fits.cut {k w b : Nat} {ds : List PyData} {l h : Option Int} (f : Fits k w b ds) : Fits k w b (Ev.cut ds l h) := by
  unfold Ev.cut
  exact (f.drop _).take _
theorem cut_take {α : Type} {xs : List α} {n : Int} (h0 : 0 ≤ n) : cut xs none (some n) = xs.take n.toNat := by
  unfold cut HT.sIx
  dsimp only
  rw [if_neg (by omega), List.drop_zero, Nat.sub_zero]
  by_cases h : n.toNat ≤ xs.length
  · rw [Nat.min_eq_left h]
  · rw [Nat.min_eq_right (by omega), List.take_length, List.take_of_length_le (by omega)]
theorem cut_drop {α : Type} {xs : List α} {n : Int} (h0 : 0 ≤ n) : cut xs (some n) none = xs.drop n.toNat := by
  unfold cut HT.sIx
  dsimp only
  rw [if_neg (by omega)]
  by_cases h : n.toNat ≤ xs.length
  · rw [Nat.min_eq_left h, List.take_of_length_le (by rw [List.length_drop]; exact Nat.le_refl _)]
  · rw [Nat.min_eq_right (by omega), List.drop_length, List.drop_eq_nil_of_le (by omega)]
    simp
theorem Fits.split {k b : Nat} : ∀ {ds : List PyData} {w n : Nat} {d : PyData}, Fits k w b ds → ds[n]? = some d → ∃ wa wd wc, wa + (wd + 2) + wc ≤ w ∧ Fits k wa b (ds.take n) ∧ Fit k wd b d ∧ Fits k wc b (ds.drop (n + 1))
  | _ :: ds, w, 0, _, h, e => by
    cases e
    obtain ⟨w1, w2, e1, h1, h2⟩ := h.unc
    exact ⟨0, w1, w2, by omega, Fits.nil, h1, h2⟩
  | x :: ds, w, n + 1, d, h, e => by
    obtain ⟨w1, w2, e1, h1, h2⟩ := h.unc
    obtain ⟨wa, wd, wc, e2, g1, g2, g3⟩ := Fits.split (ds := ds) (n := n) (d := d) h2 e
    exact ⟨w1 + 2 + wa, wd, wc, by omega, Fits.cons h1 g1, g2, g3⟩
theorem Fits.cleave {k b : Nat} : ∀ {ds : List PyData} {w : Nat} (n : Nat), Fits k w b ds → ∃ wa wc, wa + wc ≤ w ∧ Fits k wa b (ds.take n) ∧ Fits k wc b (ds.drop n)
  | ds, w, 0, h => ⟨0, w, by omega, by simpa using Fits.nil, h⟩
  | [], w, n + 1, h => ⟨0, 0, by omega, by simpa using Fits.nil, by simpa using Fits.nil⟩
  | x :: ds, w, n + 1, h => by
    obtain ⟨w1, w2, e1, h1, h2⟩ := h.unc
    obtain ⟨wa, wc, e2, g1, g2⟩ := Fits.cleave n h2
    exact ⟨w1 + 2 + wa, wc, by omega, Fits.cons h1 g1, g2⟩
end
end Ev

end

section
/-! PR: the rules, over words that no tactic unfolds. -/
namespace Ev
open PySem PyProof.Rows

@[irreducible] def V {α : Type} (m : M α) (S : Sto) (Q : α → Sto → Prop) : Prop := W m S Q
@[irreducible] def xE (C : Ctx) (e : Ex) (ρ : Env) : M Val := evE C e ρ
@[irreducible] def xT (C : Ctx) (e : Ex) (ρ : Env) : M Bool := evT C e ρ
@[irreducible] def xQ (C : Ctx) (e : Ex) (ρ : Env) : M (Bool × List Val) := evQ C e ρ
@[irreducible] def xI (C : Ctx) (e : It) (ρ : Env) : M Walk := evI C e ρ
@[irreducible] def xEs (C : Ctx) (e : Exs) (ρ : Env) : M (List Val) := evEs C e ρ
@[irreducible] def xS (C : Ctx) (e : Sx) (ρ : Env) : M Flo := evS C e ρ
@[irreducible] def xSs (C : Ctx) (e : Sxs) (ρ : Env) : M Flo := evSs C e ρ
@[irreducible] def pBin (op : Operator) (a b : Val) : M Val := binV op a b
@[irreducible] def pCmp (op : CmpOp) (a b : Val) : M Val := cmpV op a b
@[irreducible] def pIdx (a b : Val) : M Val := idxV a b
@[irreducible] def pSli (scr : List Int) (nl nh : Bool) (x l h : Val) : M Val := sliM scr nl nh x l h
@[irreducible] def pSet (a i v : Val) : M Unit := setV a i v
@[irreducible] def pGet (a i : Val) : M Val := getM a i
@[irreducible] def pBi (f : String) (vs : List Val) : M Val := biV f vs
@[irreducible] def pSq (f : String) (k : Bool) (xs : List Val) : M Val := sqV f k xs
@[irreducible] def pMet (T m : String) (o : Val) (vs : List Val) : M Val := metV T m o vs
@[irreducible] def pAug (op : Operator) (a b : Val) : M Val := augV op a b
@[irreducible] def pNeg (a : Val) : M Val := negM a
@[irreducible] def pTru (a : Val) : M Bool := tru a
@[irreducible] def pTy (a : Val) : M String := tyM a
@[irreducible] def pWalk (a : Val) : M Walk := walkV a
@[irreducible] def pRng1 (a : Val) : M Walk := rng1M a
@[irreducible] def pRng2 (a b : Val) : M Walk := rng2M a b
@[irreducible] def pZip (a b : Val) : M Walk := zipM a b
@[irreducible] def pEnum (a : Val) : M Walk := enumM a
@[irreducible] def pExt (a : Val) (ys : List Val) : M Val := extV a ys
@[irreducible] def pSeq (a : Val) : M (Bool × List Val) := seqM a
@[irreducible] def xCom (w : Walk) (turn : Val → M (Option Val)) (xs : List Val) : M (List Val) := comLoop w turn xs
@[irreducible] def xFor (w : Walk) (t : Tg) (body : Env → M Flo) (xs : List Val) (ρ : Env) : M Flo := forLoop w t body xs ρ
@[irreducible] def xWhl (test : Env → M Bool) (body : Env → M Flo) (n : Nat) (ρ : Env) : M Flo := whlLoop test body n ρ
@[irreducible] def pAlloc (o : Ob) : M Val := alloc o
@[irreducible] def aft (C : Ctx) (ss : Sxs) (Q : Flo → Sto → Prop) (f : Flo) (S : Sto) : Prop := Aft C ss Q f S
@[irreducible] def ret (Q : Val → Sto → Prop) (f : Flo) (S : Sto) : Prop := Ret Q f S
@[irreducible] def xTurn (C : Ctx) (vs : List Nat) (tg : Tg) (c e : Ex) (ρ : Env) (x : Val) : M (Option Val) := turnOf C vs tg c e ρ x
@[irreducible] def xSem (D : List Fn) (glo : Str → Option Val) (scr : List Int) (gas n : Nat) (x : Str) (vs : List Val) : M Val := sem D glo scr gas n x vs
@[irreducible] def xRun (C : Ctx) (f : Fn) (vs : List Val) : M Val := runFn C f vs

namespace R
section
variable {α β : Type} {m : M α} {S : Sto} {Q R : α → Sto → Prop}
theorem w_pure {a : α} (h : Q a S) : V (pure a : M α) S Q := by with_unfolding_all exact Ev.w_pure h
end
section
variable {α β : Type} {m : M α} {S : Sto} {Q R : α → Sto → Prop}
theorem w_bind {f : α → M β} {Q : β → Sto → Prop} (h : V m S fun a S1 => V (f a) S1 Q) : V (m >>= f) S Q  := by with_unfolding_all exact Ev.w_bind h
end
section
variable {α β : Type} {m : M α} {S : Sto} {Q R : α → Sto → Prop}
theorem w_mono (h : V m S Q) (f : ∀ a S', Q a S' → R a S') : V m S R  := by with_unfolding_all exact Ev.w_mono h f
end
section
variable {α β : Type} {m : M α} {S : Sto} {Q R : α → Sto → Prop}
theorem w_ite {b : Bool} {m' : M α} (h1 : b = true → V m S Q) (h2 : b = false → V m' S Q) : V (if b then m else m') S Q  := by with_unfolding_all exact Ev.w_ite h1 h2
end
section
variable {α β : Type} {m : M α} {S : Sto} {Q R : α → Sto → Prop}
theorem w_iteT {m' : M α} (h : V m S Q) : V (if true then m else m') S Q := by with_unfolding_all exact Ev.w_iteT h
end
section
variable {α β : Type} {m : M α} {S : Sto} {Q R : α → Sto → Prop}
theorem w_iteF {m' : M α} (h : V m' S Q) : V (if false then m else m') S Q := by with_unfolding_all exact Ev.w_iteF h
end
section
variable {α β : Type} {m : M α} {S : Sto} {Q R : α → Sto → Prop}
theorem w_opt {a : α} {o : Option α} (e : o = some a) (h : Q a S) : V (opt o) S Q  := by with_unfolding_all exact Ev.w_opt e h
end
section
variable {α β : Type} {m : M α} {S : Sto} {Q R : α → Sto → Prop}
theorem w_guard {b : Bool} {Q : Unit → Sto → Prop} (e : b = true) (h : Q () S) : V (guard' b) S Q  := by with_unfolding_all exact Ev.w_guard e h
end
section
variable {α β : Type} {m : M α} {S : Sto} {Q R : α → Sto → Prop}
theorem w_alloc {o : Ob} {Q : Val → Sto → Prop} (h : Q (.loc S.length) (S ++ [o])) : V (pAlloc o) S Q := by with_unfolding_all exact Ev.w_alloc h
end
section
variable {C : Ctx} {ρ : Env} {S : Sto} {Q : Val → Sto → Prop} {a b c e : Ex} {es : Exs}
theorem eVar {i : Nat} {v : Val} (h : ρ[i]? = some (some v)) (q : Q v S) : V (xE C (.var i) ρ) S Q  := by with_unfolding_all exact Ev.eVar h q
end
section
variable {C : Ctx} {ρ : Env} {S : Sto} {Q : Val → Sto → Prop} {a b c e : Ex} {es : Exs}
theorem eNon (q : Q .non S) : V (xE C .non ρ) S Q := by with_unfolding_all exact Ev.eNon q
end
section
variable {C : Ctx} {ρ : Env} {S : Sto} {Q : Val → Sto → Prop} {a b c e : Ex} {es : Exs}
theorem eBl {b : Bool} (q : Q (.bl b) S) : V (xE C (.bl b) ρ) S Q := by with_unfolding_all exact Ev.eBl q
end
section
variable {C : Ctx} {ρ : Env} {S : Sto} {Q : Val → Sto → Prop} {a b c e : Ex} {es : Exs}
theorem eInt {i : Int} (q : Q (.int i) S) : V (xE C (.int i) ρ) S Q := by with_unfolding_all exact Ev.eInt q
end
section
variable {C : Ctx} {ρ : Env} {S : Sto} {Q : Val → Sto → Prop} {a b c e : Ex} {es : Exs}
theorem eStr {x : Str} (q : Q (.str x) S) : V (xE C (.str x) ρ) S Q := by with_unfolding_all exact Ev.eStr q
end
section
variable {C : Ctx} {ρ : Env} {S : Sto} {Q : Val → Sto → Prop} {a b c e : Ex} {es : Exs}
theorem eTy {n : String} (q : Q (.ty n) S) : V (xE C (.ty n) ρ) S Q := by with_unfolding_all exact Ev.eTy q
end
section
variable {C : Ctx} {ρ : Env} {S : Sto} {Q : Val → Sto → Prop} {a b c e : Ex} {es : Exs}
theorem eGlo {x : Str} {v : Val} (h : C.glo x = some v) (q : Q v S) : V (xE C (.glo x) ρ) S Q  := by with_unfolding_all exact Ev.eGlo h q
end
section
variable {C : Ctx} {ρ : Env} {S : Sto} {Q : Val → Sto → Prop} {a b c e : Ex} {es : Exs}
theorem eBin {op : Operator} (h : V (xE C a ρ) S fun x S1 => V (xE C b ρ) S1 fun y S2 => V (pBin op x y) S2 Q) : V (xE C (.bin op a b) ρ) S Q  := by with_unfolding_all exact Ev.eBin h
end
section
variable {C : Ctx} {ρ : Env} {S : Sto} {Q : Val → Sto → Prop} {a b c e : Ex} {es : Exs}
theorem eNeg (h : V (xE C a ρ) S fun x S1 => V (pNeg x) S1 Q) : V (xE C (.neg a) ρ) S Q := by with_unfolding_all exact Ev.eNeg h
end
section
variable {C : Ctx} {ρ : Env} {S : Sto} {Q : Val → Sto → Prop} {a b c e : Ex} {es : Exs}
theorem eNot (h : V (xE C a ρ) S fun x S1 => V (pTru x) S1 fun t S2 => Q (.bl (!t)) S2) : V (xE C (.not a) ρ) S Q  := by with_unfolding_all exact Ev.eNot h
end
section
variable {C : Ctx} {ρ : Env} {S : Sto} {Q : Val → Sto → Prop} {a b c e : Ex} {es : Exs}
theorem eCmp {op : CmpOp} (h : V (xE C a ρ) S fun x S1 => V (xE C b ρ) S1 fun y S2 => V (pCmp op x y) S2 Q) : V (xE C (.cmp op a b) ρ) S Q  := by with_unfolding_all exact Ev.eCmp h
end
section
variable {C : Ctx} {ρ : Env} {S : Sto} {Q : Val → Sto → Prop} {a b c e : Ex} {es : Exs}
theorem eChn {op op' : CmpOp} (h : V (xE C a ρ) S fun x S1 => V (xE C b ρ) S1 fun y S2 => V (pCmp op x y) S2 fun z S3 => V (pTru z) S3 fun t S4 => V (if t then (xE C c ρ >>= fun w => pCmp op' y w) else pure z) S4 Q) : V (xE C (.chn op op' a b c) ρ) S Q  := by with_unfolding_all exact Ev.eChn h
end
section
variable {C : Ctx} {ρ : Env} {S : Sto} {Q : Val → Sto → Prop} {a b c e : Ex} {es : Exs}
theorem eAnd (h : V (xE C a ρ) S fun x S1 => V (pTru x) S1 fun t S2 => V (if t then xE C b ρ else pure x) S2 Q) : V (xE C (.and a b) ρ) S Q  := by with_unfolding_all exact Ev.eAnd h
end
section
variable {C : Ctx} {ρ : Env} {S : Sto} {Q : Val → Sto → Prop} {a b c e : Ex} {es : Exs}
theorem eOr (h : V (xE C a ρ) S fun x S1 => V (pTru x) S1 fun t S2 => V (if t then pure x else xE C b ρ) S2 Q) : V (xE C (.or a b) ρ) S Q  := by with_unfolding_all exact Ev.eOr h
end
section
variable {C : Ctx} {ρ : Env} {S : Sto} {Q : Val → Sto → Prop} {a b c e : Ex} {es : Exs}
theorem eIte (h : V (xT C c ρ) S fun t S1 => V (if t then xE C a ρ else xE C b ρ) S1 Q) : V (xE C (.ite c a b) ρ) S Q := by with_unfolding_all exact Ev.eIte h
end
section
variable {C : Ctx} {ρ : Env} {S : Sto} {Q : Val → Sto → Prop} {a b c e : Ex} {es : Exs}
theorem eTup (h : V (xEs C es ρ) S fun xs S1 => Q (.tup xs) S1) : V (xE C (.tup es) ρ) S Q := by with_unfolding_all exact Ev.eTup h
end
section
variable {C : Ctx} {ρ : Env} {S : Sto} {Q : Val → Sto → Prop} {a b c e : Ex} {es : Exs}
theorem eLst (h : V (xEs C es ρ) S fun xs S1 => Q (.loc S1.length) (S1 ++ [.lst xs])) : V (xE C (.lst es) ρ) S Q := by with_unfolding_all exact Ev.eLst h
end
section
variable {C : Ctx} {ρ : Env} {S : Sto} {Q : Val → Sto → Prop} {a b c e : Ex} {es : Exs}
theorem eDic (h : Q (.loc S.length) (S ++ [.dic []])) : V (xE C .dic ρ) S Q := by with_unfolding_all exact Ev.eDic h
end
section
variable {C : Ctx} {ρ : Env} {S : Sto} {Q : Val → Sto → Prop} {a b c e : Ex} {es : Exs}
theorem eCall {f : Str} (h : V (xEs C es ρ) S fun xs S1 => V (C.call f xs) S1 Q) : V (xE C (.call f es) ρ) S Q := by with_unfolding_all exact Ev.eCall h
end
section
variable {C : Ctx} {ρ : Env} {S : Sto} {Q : Val → Sto → Prop} {a b c e : Ex} {es : Exs}
theorem eBi {f : String} (h : V (xEs C es ρ) S fun xs S1 => V (pBi f xs) S1 Q) : V (xE C (.bi f es) ρ) S Q := by with_unfolding_all exact Ev.eBi h
end
section
variable {C : Ctx} {ρ : Env} {S : Sto} {Q : Val → Sto → Prop} {a b c e : Ex} {es : Exs}
theorem eSq {f : String} (h : V (xQ C e ρ) S fun q S1 => V (pSq f q.1 q.2) S1 Q) : V (xE C (.sq f e) ρ) S Q := by with_unfolding_all exact Ev.eSq h
end
section
variable {C : Ctx} {ρ : Env} {S : Sto} {Q : Val → Sto → Prop} {a b c e : Ex} {es : Exs}
theorem eExt {o : Ex} (h : V (xE C o ρ) S fun x S1 => V (pTy x) S1 fun T S2 => V (xQ C e ρ) S2 fun q S3 => V (if T = "list" ∧ q.1 = true then pExt x q.2 else bad) S3 Q) : V (xE C (.ext o e) ρ) S Q  := by with_unfolding_all exact Ev.eExt h
end
section
variable {C : Ctx} {ρ : Env} {S : Sto} {Q : Val → Sto → Prop} {a b c e : Ex} {es : Exs}
theorem eMet {o : Ex} {m : String} (h : V (xE C o ρ) S fun x S1 => V (pTy x) S1 fun T S2 => V (xEs C es ρ) S2 fun xs S3 => V (pMet T m x xs) S3 Q) : V (xE C (.met o m es) ρ) S Q  := by with_unfolding_all exact Ev.eMet h
end
section
variable {C : Ctx} {ρ : Env} {S : Sto} {Q : Val → Sto → Prop} {a b c e : Ex} {es : Exs}
theorem eIdx (h : V (xE C a ρ) S fun x S1 => V (xE C b ρ) S1 fun y S2 => V (pIdx x y) S2 Q) : V (xE C (.idx a b) ρ) S Q  := by with_unfolding_all exact Ev.eIdx h
end
section
variable {C : Ctx} {ρ : Env} {S : Sto} {Q : Val → Sto → Prop} {a b c e : Ex} {es : Exs}
theorem eSli (h : V (xE C a ρ) S fun x S1 => V (xE C b ρ) S1 fun y S2 => V (xE C c ρ) S2 fun z S3 => V (pSli C.scr (isNon b) (isNon c) x y z) S3 Q) : V (xE C (.sli a b c) ρ) S Q  := by with_unfolding_all exact Ev.eSli h
end
section
variable {C : Ctx} {ρ : Env} {S : Sto} {Q : Val → Sto → Prop} {a b c e : Ex} {es : Exs}
theorem eRev {Q : Val → Sto → Prop} (h : V (xQ C a ρ) S fun q S1 => V (if q.1 then pAlloc (.lst q.2.reverse) else pure (.tup q.2.reverse)) S1 Q) : V (xE C (.rev a) ρ) S Q := by with_unfolding_all exact Ev.eRev h
end
section
variable {C : Ctx} {ρ : Env} {S : Sto} {Q : Val → Sto → Prop} {a b c e : Ex} {es : Exs}
theorem eCom {vs : List Nat} {tg : Tg} {it : It} (h : V (xI C it ρ) S fun w S1 => w.xs.length ≤ sizeLine ∧ V (xCom w (xTurn C vs tg c e ρ) w.xs) S1 fun ys S2 => Q (.loc S2.length) (S2 ++ [.lst ys])) : V (xE C (.com vs tg it c e) ρ) S Q  := by with_unfolding_all exact Ev.eCom h
end
section
variable {C : Ctx} {ρ : Env} {S : Sto} {Q : Val → Sto → Prop} {a b c e : Ex} {es : Exs}
theorem qCom {Q : Bool × List Val → Sto → Prop} {vs : List Nat} {tg : Tg} {it : It} (h : V (xI C it ρ) S fun w S1 => w.xs.length ≤ sizeLine ∧ V (xCom w (xTurn C vs tg c e ρ) w.xs) S1 fun ys S2 => Q (true, ys) S2) : V (xQ C (.com vs tg it c e) ρ) S Q  := by with_unfolding_all exact Ev.qCom h
end
section
variable {C : Ctx} {ρ : Env} {S : Sto} {Q : Val → Sto → Prop} {a b c e : Ex} {es : Exs}
theorem qLst {Q : Bool × List Val → Sto → Prop} (h : V (xEs C es ρ) S fun xs S1 => Q (true, xs) S1) : V (xQ C (.lst es) ρ) S Q := by with_unfolding_all exact Ev.qLst h
end
section
variable {C : Ctx} {ρ : Env} {S : Sto} {Q : Val → Sto → Prop} {a b c e : Ex} {es : Exs}
theorem tNot {Q : Bool → Sto → Prop} (h : V (xT C a ρ) S fun t S1 => Q (!t) S1) : V (xT C (.not a) ρ) S Q := by with_unfolding_all exact Ev.tNot h
end
section
variable {C : Ctx} {ρ : Env} {S : Sto} {Q : Val → Sto → Prop} {a b c e : Ex} {es : Exs}
theorem tAnd {Q : Bool → Sto → Prop} (h : V (xT C a ρ) S fun t S1 => V (if t then xT C b ρ else pure false) S1 Q) : V (xT C (.and a b) ρ) S Q := by with_unfolding_all exact Ev.tAnd h
end
section
variable {C : Ctx} {ρ : Env} {S : Sto} {Q : Val → Sto → Prop} {a b c e : Ex} {es : Exs}
theorem tOr {Q : Bool → Sto → Prop} (h : V (xT C a ρ) S fun t S1 => V (if t then pure true else xT C b ρ) S1 Q) : V (xT C (.or a b) ρ) S Q := by with_unfolding_all exact Ev.tOr h
end
section
variable {C : Ctx} {ρ : Env} {S : Sto} {Q : Val → Sto → Prop} {a b c e : Ex} {es : Exs}
theorem tIte {Q : Bool → Sto → Prop} (h : V (xT C c ρ) S fun t S1 => V (if t then xT C a ρ else xT C b ρ) S1 Q) : V (xT C (.ite c a b) ρ) S Q := by with_unfolding_all exact Ev.tIte h
end
section
variable {C : Ctx} {ρ : Env} {S : Sto} {Q : Val → Sto → Prop} {a b c e : Ex} {es : Exs}
theorem esNil {Q : List Val → Sto → Prop} (h : Q [] S) : V (xEs C .nil ρ) S Q := by with_unfolding_all exact Ev.esNil h
end
section
variable {C : Ctx} {ρ : Env} {S : Sto} {Q : Val → Sto → Prop} {a b c e : Ex} {es : Exs}
theorem esCons {Q : List Val → Sto → Prop} (h : V (xE C e ρ) S fun x S1 => V (xEs C es ρ) S1 fun xs S2 => Q (x :: xs) S2) : V (xEs C (.cons e es) ρ) S Q  := by with_unfolding_all exact Ev.esCons h
end
section
variable {C : Ctx} {ρ : Env} {S : Sto} {Q : Val → Sto → Prop} {a b c e : Ex} {es : Exs}
theorem iSeq {Q : Walk → Sto → Prop} (h : V (xE C e ρ) S fun x S1 => V (pWalk x) S1 Q) : V (xI C (.seq e) ρ) S Q := by with_unfolding_all exact Ev.iSeq h
end
section
variable {C : Ctx} {ρ : Env} {S : Sto} {Q : Val → Sto → Prop} {a b c e : Ex} {es : Exs}
theorem iRng1 {Q : Walk → Sto → Prop} (h : V (xE C a ρ) S fun x S1 => V (pRng1 x) S1 Q) : V (xI C (.rng1 a) ρ) S Q := by with_unfolding_all exact Ev.iRng1 h
end
section
variable {C : Ctx} {ρ : Env} {S : Sto} {Q : Val → Sto → Prop} {a b c e : Ex} {es : Exs}
theorem iRng2 {Q : Walk → Sto → Prop} (h : V (xE C a ρ) S fun x S1 => V (xE C b ρ) S1 fun y S2 => V (pRng2 x y) S2 Q) : V (xI C (.rng2 a b) ρ) S Q := by with_unfolding_all exact Ev.iRng2 h
end
section
variable {C : Ctx} {ρ : Env} {S : Sto} {Q : Val → Sto → Prop} {a b c e : Ex} {es : Exs}
theorem iZip {Q : Walk → Sto → Prop} (h : V (xE C a ρ) S fun x S1 => V (xE C b ρ) S1 fun y S2 => V (pZip x y) S2 Q) : V (xI C (.zip a b) ρ) S Q := by with_unfolding_all exact Ev.iZip h
end
section
variable {C : Ctx} {ρ : Env} {S : Sto} {Q : Val → Sto → Prop} {a b c e : Ex} {es : Exs}
theorem iEnum {Q : Walk → Sto → Prop} (h : V (xE C a ρ) S fun x S1 => V (pEnum x) S1 Q) : V (xI C (.enum a) ρ) S Q := by with_unfolding_all exact Ev.iEnum h
end
section
variable {C : Ctx} {ρ : Env} {S : Sto} {Q : Flo → Sto → Prop} {a b c e o i : Ex} {s : Sx} {ss x y : Sxs}
theorem ssNil (h : Q (.nx ρ) S) : V (xSs C .nil ρ) S Q := by with_unfolding_all exact Ev.ssNil h
end
section
variable {C : Ctx} {ρ : Env} {S : Sto} {Q : Flo → Sto → Prop} {a b c e o i : Ex} {s : Sx} {ss x y : Sxs}
theorem ssCons (h : V (xS C s ρ) S (aft C ss Q)) : V (xSs C (.cons s ss) ρ) S Q  := by with_unfolding_all exact Ev.ssCons h
end
section
variable {C : Ctx} {ρ : Env} {S : Sto} {Q : Flo → Sto → Prop} {a b c e o i : Ex} {s : Sx} {ss x y : Sxs}
theorem sExpr (h : V (xE C e ρ) S fun _ S1 => Q (.nx ρ) S1) : V (xS C (.expr e) ρ) S Q := by with_unfolding_all exact Ev.sExpr h
end
section
variable {C : Ctx} {ρ : Env} {S : Sto} {Q : Flo → Sto → Prop} {a b c e o i : Ex} {s : Sx} {ss x y : Sxs}
theorem sRet (h : V (xE C e ρ) S fun v S1 => Q (.rt v) S1) : V (xS C (.ret e) ρ) S Q := by with_unfolding_all exact Ev.sRet h
end
section
variable {C : Ctx} {ρ : Env} {S : Sto} {Q : Flo → Sto → Prop} {a b c e o i : Ex} {s : Sx} {ss x y : Sxs}
theorem sIf (h : V (xT C c ρ) S fun t S1 => V (if t then xSs C x ρ else xSs C y ρ) S1 Q) : V (xS C (.ifs c x y) ρ) S Q := by with_unfolding_all exact Ev.sIf h
end
section
variable {C : Ctx} {ρ : Env} {S : Sto} {Q : Flo → Sto → Prop} {a b c e o i : Ex} {s : Sx} {ss x y : Sxs}
theorem sSet {t : Tg} (h : V (xE C e ρ) S fun v S1 => ∃ ρ', asg t v ρ = some ρ' ∧ Q (.nx ρ') S1) : V (xS C (.set t e) ρ) S Q  := by with_unfolding_all exact Ev.sSet h
end
section
variable {C : Ctx} {ρ : Env} {S : Sto} {Q : Flo → Sto → Prop} {a b c e o i : Ex} {s : Sx} {ss x y : Sxs}
theorem sSub (h : V (xE C e ρ) S fun v S1 => V (xE C o ρ) S1 fun x S2 => V (xE C i ρ) S2 fun y S3 => V (pSet x y v) S3 fun _ S4 => Q (.nx ρ) S4) : V (xS C (.sub o i e) ρ) S Q  := by with_unfolding_all exact Ev.sSub h
end
section
variable {C : Ctx} {ρ : Env} {S : Sto} {Q : Flo → Sto → Prop} {a b c e o i : Ex} {s : Sx} {ss x y : Sxs}
theorem sAug {n : Nat} {op : Operator} {v : Val} (hv : ρ[n]? = some (some v)) (h : V (xE C e ρ) S fun w S1 => V (pAug op v w) S1 fun z S2 => ∃ ρ', asg (.nam n) z ρ = some ρ' ∧ Q (.nx ρ') S2) : V (xS C (.aug n op e) ρ) S Q  := by with_unfolding_all exact Ev.sAug hv h
end
section
variable {C : Ctx} {ρ : Env} {S : Sto} {Q : Flo → Sto → Prop} {a b c e o i : Ex} {s : Sx} {ss x y : Sxs}
theorem sAugs {op : Operator} (h : V (xE C o ρ) S fun x S1 => V (xE C i ρ) S1 fun y S2 => V (pGet x y) S2 fun a S3 => V (xE C e ρ) S3 fun b S4 => V (pAug op a b) S4 fun z S5 => V (pSet x y z) S5 fun _ S6 => Q (.nx ρ) S6) : V (xS C (.augs o i op e) ρ) S Q  := by with_unfolding_all exact Ev.sAugs h
end
section
variable {C : Ctx} {ρ : Env} {S : Sto} {Q : Flo → Sto → Prop} {a b c e o i : Ex} {s : Sx} {ss x y : Sxs}
theorem sFor {t : Tg} {it : It} (h : V (xI C it ρ) S fun w S1 => V (xFor w t (xSs C x) w.xs ρ) S1 Q) : V (xS C (.for_ t it x) ρ) S Q := by with_unfolding_all exact Ev.sFor h
end
section
variable {C : Ctx} {ρ : Env} {S : Sto} {Q : Flo → Sto → Prop} {a b c e o i : Ex} {s : Sx} {ss x y : Sxs}
theorem sWhl (h : V (xWhl (xT C c) (xSs C x) C.gas ρ) S Q) : V (xS C (.whl c x) ρ) S Q := by with_unfolding_all exact Ev.sWhl h
end
section
variable {C : Ctx} {ρ : Env} {S : Sto} {Q : Flo → Sto → Prop} {a b c e o i : Ex} {s : Sx} {ss x y : Sxs}
theorem sPass (h : Q (.nx ρ) S) : V (xS C .pass ρ) S Q := by with_unfolding_all exact Ev.sPass h
end
section
variable {C : Ctx} {ρ : Env} {S : Sto} {Q : Flo → Sto → Prop} {a b c e o i : Ex} {s : Sx} {ss x y : Sxs}
theorem sBrk (h : Q (.bk ρ) S) : V (xS C .brk ρ) S Q := by with_unfolding_all exact Ev.sBrk h
end
section
variable {C : Ctx} {ρ : Env} {S : Sto} {Q : Flo → Sto → Prop} {a b c e o i : Ex} {s : Sx} {ss x y : Sxs}
theorem sCnt (h : Q (.ct ρ) S) : V (xS C .cnt ρ) S Q := by with_unfolding_all exact Ev.sCnt h
end
section
variable {C : Ctx} {ρ : Env} {S : Sto} {Q : Flo → Sto → Prop} {a b c e o i : Ex} {s : Sx} {ss x y : Sxs}
theorem w_for {w : Walk} {t : Tg} {body : Env → M Flo} (I : Nat → Env → Sto → Prop) (hs : ∀ k x ρ S, w.xs[k]? = some x → I k ρ S → (∀ p ∈ w.held, S[p.1]? = some (.lst p.2)) ∧ ∃ ρ', asg t x ρ = some ρ' ∧ V (body ρ') S fun f S' => match f with
      | .nx ρ2 => I (k + 1) ρ2 S'
      | .ct ρ2 => I (k + 1) ρ2 S'
      | .bk ρ2 => Q (.nx ρ2) S'
      | .rt v => Q (.rt v) S')
    (hd : ∀ ρ S, I w.xs.length ρ S → (∀ p ∈ w.held, S[p.1]? = some (.lst p.2)) ∧ Q (.nx ρ) S) {ρ : Env} {S : Sto} (h0 : I 0 ρ S) : V (xFor w t body w.xs ρ) S Q  := by with_unfolding_all exact Ev.w_for I hs hd h0
end
section
variable {C : Ctx} {ρ : Env} {S : Sto} {Q : Flo → Sto → Prop} {a b c e o i : Ex} {s : Sx} {ss x y : Sxs}
theorem w_com {w : Walk} {turn : Val → M (Option Val)} {Q : List Val → Sto → Prop} (I : Nat → List Val → Sto → Prop) (hs : ∀ k x acc S, w.xs[k]? = some x → I k acc S → (∀ p ∈ w.held, S[p.1]? = some (.lst p.2)) ∧ V (turn x) S fun r S' => match r with
      | some y => I (k + 1) (acc ++ [y]) S'
      | none => I (k + 1) acc S')
    (hd : ∀ acc S, I w.xs.length acc S → (∀ p ∈ w.held, S[p.1]? = some (.lst p.2)) ∧ Q acc S) {S : Sto} (h0 : I 0 [] S) : V (xCom w turn w.xs) S Q  := by with_unfolding_all exact Ev.w_com I hs hd h0
end
section
variable {k w b k' w' b' : Nat} {d : PyData} {ds es : List PyData}
theorem w_repr {X : Nat → Prop} {S : Sto} {v : Val} {d : PyData} {k w b : Nat} {Q : Val → Sto → Prop} (r : Rd X S v d) (h : Fit k w b d) (hk : k ≤ 64) (hb : b ≤ 1920) (hw : w ≤ sizeLine) (q : Q (.str d.shown) S) : V (pBi "repr" [v]) S Q  := by with_unfolding_all exact Ev.w_repr r h hk hb hw q
end
section
variable {S : Sto} {Q : Val → Sto → Prop}
theorem vTruB {b : Bool} {Q : Bool → Sto → Prop} (q : Q b S) : V (pTru (.bl b)) S Q := by with_unfolding_all exact Ev.vTruB q
end
section
variable {S : Sto} {Q : Val → Sto → Prop}
theorem vAdd {i j : Int} (q : Q (.int (i + j)) S) : V (pBin .Add (.int i) (.int j)) S Q := by with_unfolding_all exact Ev.vAdd q
end
section
variable {S : Sto} {Q : Val → Sto → Prop}
theorem vSub {i j : Int} (q : Q (.int (i - j)) S) : V (pBin .Sub (.int i) (.int j)) S Q := by with_unfolding_all exact Ev.vSub q
end
section
variable {S : Sto} {Q : Val → Sto → Prop}
theorem vMul {i j : Int} (h : mulOk i j = true) (q : Q (.int (i * j)) S) : V (pBin .Mult (.int i) (.int j)) S Q  := by with_unfolding_all exact Ev.vMul h q
end
section
variable {S : Sto} {Q : Val → Sto → Prop}
theorem vMod {i j : Int} (h : 0 < j) (q : Q (.int (i % j)) S) : V (pBin .Mod (.int i) (.int j)) S Q  := by with_unfolding_all exact Ev.vMod h q
end
section
variable {S : Sto} {Q : Val → Sto → Prop}
theorem vDiv {i j : Int} (h : 0 < j) (h2 : j.natAbs.log2 < 9000) (q : Q (.int (i / j)) S) : V (pBin .FloorDiv (.int i) (.int j)) S Q  := by with_unfolding_all exact Ev.vDiv h h2 q
end
section
variable {S : Sto} {Q : Val → Sto → Prop}
theorem vPow {i j : Int} (h : powOk i j = true) (q : Q (.int (i ^ j.toNat)) S) : V (pBin .Pow (.int i) (.int j)) S Q  := by with_unfolding_all exact Ev.vPow h q
end
section
variable {S : Sto} {Q : Val → Sto → Prop}
theorem vNegI {i : Int} (q : Q (.int (-i)) S) : V (pNeg (.int i)) S Q := by with_unfolding_all exact Ev.vNegI q
end
section
variable {S : Sto} {Q : Val → Sto → Prop}
theorem vLtI {i j : Int} (q : Q (.bl (decide (i < j))) S) : V (pCmp .Lt (.int i) (.int j)) S Q := by with_unfolding_all exact Ev.vLtI q
end
section
variable {S : Sto} {Q : Val → Sto → Prop}
theorem vGtI {i j : Int} (q : Q (.bl (decide (j < i))) S) : V (pCmp .Gt (.int i) (.int j)) S Q := by with_unfolding_all exact Ev.vGtI q
end
section
variable {S : Sto} {Q : Val → Sto → Prop}
theorem vLeI {i j : Int} (q : Q (.bl (!decide (j < i))) S) : V (pCmp .LtE (.int i) (.int j)) S Q := by with_unfolding_all exact Ev.vLeI q
end
section
variable {S : Sto} {Q : Val → Sto → Prop}
theorem vGeI {i j : Int} (q : Q (.bl (!decide (i < j))) S) : V (pCmp .GtE (.int i) (.int j)) S Q := by with_unfolding_all exact Ev.vGeI q
end
section
variable {S : Sto} {Q : Val → Sto → Prop}
theorem vEqI {i j : Int} (q : Q (.bl (decide (i = j))) S) : V (pCmp .Eq (.int i) (.int j)) S Q := by with_unfolding_all exact Ev.vEqI q
end
section
variable {S : Sto} {Q : Val → Sto → Prop}
theorem vEqS {i j : Str} (q : Q (.bl (decide (i = j))) S) : V (pCmp .Eq (.str i) (.str j)) S Q := by with_unfolding_all exact Ev.vEqS q
end
section
variable {S : Sto} {Q : Val → Sto → Prop}
theorem vIdxL {n : Nat} {xs : List Val} {k : Int} {v : Val} (h : S[n]? = some (.lst xs)) (e : L2.atI xs k = some v) (q : Q v S) : V (pIdx (.loc n) (.int k)) S Q  := by with_unfolding_all exact Ev.vIdxL h e q
end
section
variable {S : Sto} {Q : Val → Sto → Prop}
theorem vGetL {n : Nat} {xs : List Val} {k : Int} {v : Val} (h : S[n]? = some (.lst xs)) (e : L2.atI xs k = some v) (q : Q v S) : V (pGet (.loc n) (.int k)) S Q := by with_unfolding_all exact Ev.vGetL h e q
end
section
variable {S : Sto} {Q : Val → Sto → Prop}
theorem vIdxT {xs : List Val} {k : Int} {v : Val} (e : L2.atI xs k = some v) (q : Q v S) : V (pIdx (.tup xs) (.int k)) S Q  := by with_unfolding_all exact Ev.vIdxT e q
end
section
variable {S : Sto} {Q : Val → Sto → Prop}
theorem vSetL {n : Nat} {xs : List Val} {k : Int} {j : Nat} {v : Val} {Q : Unit → Sto → Prop} (h : S[n]? = some (.lst xs)) (e : L2.ixN xs.length k = some j) (q : Q () (S.set n (.lst (xs.set j v)))) : V (pSet (.loc n) (.int k) v) S Q  := by with_unfolding_all exact Ev.vSetL h e q
end
section
variable {S : Sto} {Q : Val → Sto → Prop}
theorem vAug {i j : Int} (q : Q (.int (i + j)) S) : V (pAug .Add (.int i) (.int j)) S Q := by with_unfolding_all exact Ev.vAug q
end
section
variable {S : Sto} {Q : Val → Sto → Prop}
theorem vLenL {n : Nat} {xs : List Val} (h : S[n]? = some (.lst xs)) (q : Q (.int xs.length) S) : V (pBi "len" [.loc n]) S Q  := by with_unfolding_all exact Ev.vLenL h q
end
section
variable {S : Sto} {Q : Val → Sto → Prop}
theorem vLenT {xs : List Val} (q : Q (.int xs.length) S) : V (pBi "len" [.tup xs]) S Q := by with_unfolding_all exact Ev.vLenT q
end
section
variable {S : Sto} {Q : Val → Sto → Prop}
theorem vLenS {x : Str} (h : x.length ≤ sizeLine) (q : Q (.int x.length) S) : V (pBi "len" [.str x]) S Q  := by with_unfolding_all exact Ev.vLenS h q
end
section
variable {S : Sto} {Q : Val → Sto → Prop}
theorem vEqD {X Y : Nat → Prop} {a b : Val} {d e : PyData} {k w n k' w' n' : Nat} (ra : Rd X S a d) (rb : Rd Y S b e) (ha : Fit k w n d) (hb : Fit k' w' n' e) (h1 : k ≤ 64) (h2 : k' ≤ 64) (q : Q (.bl (PyData.eqv d e)) S) : V (pCmp .Eq a b) S Q  := by with_unfolding_all exact Ev.vEqD ra rb ha hb h1 h2 q
end
section
variable {S : Sto} {Q : Val → Sto → Prop}
theorem vNeD {X Y : Nat → Prop} {a b : Val} {d e : PyData} {k w n k' w' n' : Nat} (ra : Rd X S a d) (rb : Rd Y S b e) (ha : Fit k w n d) (hb : Fit k' w' n' e) (h1 : k ≤ 64) (h2 : k' ≤ 64) (q : Q (.bl (!PyData.eqv d e)) S) : V (pCmp .NotEq a b) S Q  := by with_unfolding_all exact Ev.vNeD ra rb ha hb h1 h2 q
end
section
variable {S : Sto} {Q : Val → Sto → Prop}
theorem vIdxS {x : Str} {k : Int} {c : Nat} (h : x.length ≤ sizeLine) (e : L2.atI x.cps.toList k = some c) (q : Q (.str ⟨#[c]⟩) S) : V (pIdx (.str x) (.int k)) S Q  := by with_unfolding_all exact Ev.vIdxS h e q
end
section
variable {S : Sto} {Q : Val → Sto → Prop}
theorem vAddS {x y : Str} (h : x.length + y.length ≤ sizeLine) (q : Q (.str (x ++ y)) S) : V (pBin .Add (.str x) (.str y)) S Q  := by with_unfolding_all exact Ev.vAddS h q
end
section
variable {S : Sto} {Q : Val → Sto → Prop}
theorem vAddT {xs ys : List Val} (h : xs.length + ys.length ≤ sizeLine) (q : Q (.tup (xs ++ ys)) S) : V (pBin .Add (.tup xs) (.tup ys)) S Q  := by with_unfolding_all exact Ev.vAddT h q
end
section
variable {S : Sto} {Q : Val → Sto → Prop}
theorem vAddL {n m : Nat} {xs ys : List Val} (h1 : S[n]? = some (.lst xs)) (h2 : S[m]? = some (.lst ys)) (h : xs.length + ys.length ≤ sizeLine) (q : Q (.loc S.length) (S ++ [.lst (xs ++ ys)])) : V (pBin .Add (.loc n) (.loc m)) S Q  := by with_unfolding_all exact Ev.vAddL h1 h2 h q
end
section
variable {S : Sto} {Q : Val → Sto → Prop}
theorem vSliT {scr : List Int} {nl nh : Bool} {xs : List Val} {l h : Val} {lo hi : Option Int} (e1 : endOf nl l = some lo) (e2 : endOf nh h = some hi) (q : Q (.tup (cut xs lo hi)) S) : V (pSli scr nl nh (.tup xs) l h) S Q  := by with_unfolding_all exact Ev.vSliT e1 e2 q
end
section
variable {S : Sto} {Q : Val → Sto → Prop}
theorem vSliS {scr : List Int} {nl nh : Bool} {x : Str} {l h : Val} {lo hi : Option Int} (hx : x.length ≤ sizeLine) (e1 : endOf nl l = some lo) (e2 : endOf nh h = some hi) (q : Q (.str ⟨(cut x.cps.toList lo hi).toArray⟩) S) : V (pSli scr nl nh (.str x) l h) S Q  := by with_unfolding_all exact Ev.vSliS hx e1 e2 q
end
section
variable {S : Sto} {Q : Val → Sto → Prop}
theorem vSliL {scr : List Int} {nl nh : Bool} {n : Nat} {xs : List Val} {l h : Val} {lo hi : Option Int} (hn : S[n]? = some (.lst xs)) (e1 : endOf nl l = some lo) (e2 : endOf nh h = some hi) (q : Q (.loc S.length) (S ++ [.lst (cut xs lo hi)])) : V (pSli scr nl nh (.loc n) l h) S Q  := by with_unfolding_all exact Ev.vSliL hn e1 e2 q
end
section
variable {S : Sto} {Q : Val → Sto → Prop}
theorem vSliC {scr : List Int} {nl nh : Bool} {l h : Val} {lo hi : Option Int} (e1 : endOf nl l = some lo) (e2 : endOf nh h = some hi) (q : Q (.loc S.length) (S ++ [.lst (cut (scr.map .int) lo hi)])) : V (pSli scr nl nh .scr l h) S Q  := by with_unfolding_all exact Ev.vSliC e1 e2 q
end
section
variable {S : Sto} {Q : Val → Sto → Prop}
theorem vIsi {v : Val} {a b : String} {c : Bool} (h : tyName S v = some a) (e : isTy a b = some c) (q : Q (.bl c) S) : V (pBi "isinstance" [v, .ty b]) S Q  := by with_unfolding_all exact Ev.vIsi h e q
end
section
variable {S : Sto} {Q : Val → Sto → Prop}
theorem vIsiNo {b : String} {c : Bool} (e : isTy "NoneType" b = some c) (q : Q (.bl c) S) : V (pBi "isinstance" [.non, .ty b]) S Q := by with_unfolding_all exact Ev.vIsiNo e q
end
section
variable {S : Sto} {Q : Val → Sto → Prop}
theorem vIsiBl {d : Bool} {b : String} {c : Bool} (e : isTy "bool" b = some c) (q : Q (.bl c) S) : V (pBi "isinstance" [.bl d, .ty b]) S Q := by with_unfolding_all exact Ev.vIsiBl e q
end
section
variable {S : Sto} {Q : Val → Sto → Prop}
theorem vIsiIn {i : Int} {b : String} {c : Bool} (e : isTy "int" b = some c) (q : Q (.bl c) S) : V (pBi "isinstance" [.int i, .ty b]) S Q := by with_unfolding_all exact Ev.vIsiIn e q
end
section
variable {S : Sto} {Q : Val → Sto → Prop}
theorem vIsiSt {x : Str} {b : String} {c : Bool} (e : isTy "str" b = some c) (q : Q (.bl c) S) : V (pBi "isinstance" [.str x, .ty b]) S Q := by with_unfolding_all exact Ev.vIsiSt e q
end
section
variable {S : Sto} {Q : Val → Sto → Prop}
theorem vIsiTu {xs : List Val} {b : String} {c : Bool} (e : isTy "tuple" b = some c) (q : Q (.bl c) S) : V (pBi "isinstance" [.tup xs, .ty b]) S Q := by with_unfolding_all exact Ev.vIsiTu e q
end
section
variable {S : Sto} {Q : Val → Sto → Prop}
theorem vIsiLi {n : Nat} {xs : List Val} {b : String} {c : Bool} (h : S[n]? = some (.lst xs)) (e : isTy "list" b = some c) (q : Q (.bl c) S) : V (pBi "isinstance" [.loc n, .ty b]) S Q := by with_unfolding_all exact Ev.vIsiLi h e q
end
section
variable {S : Sto} {Q : Val → Sto → Prop}
theorem vIsiD {X : Nat → Prop} {v : Val} {d : PyData} {b : String} (h : Rd X S v d) (hb : b ∈ ["bool", "int", "str", "tuple", "list"]) (q : Q (.bl (isK d b)) S) : V (pBi "isinstance" [v, .ty b]) S Q  := by with_unfolding_all exact Ev.vIsiD h hb q
end
section
variable {S : Sto} {Q : Val → Sto → Prop}
theorem vIsB {v : Val} {c : Bool} (q : Q (.bl (decide (v = .bl c))) S) : V (pCmp .Is v (.bl c)) S Q := by with_unfolding_all exact Ev.vIsB q
end
section
variable {S : Sto} {Q : Val → Sto → Prop}
theorem vIsNotB {v : Val} {c : Bool} (q : Q (.bl (!decide (v = .bl c))) S) : V (pCmp .IsNot v (.bl c)) S Q := by with_unfolding_all exact Ev.vIsNotB q
end
section
variable {S : Sto} {Q : Val → Sto → Prop}
theorem vIsN {v : Val} (q : Q (.bl (decide (v = .non))) S) : V (pCmp .Is v .non) S Q := by with_unfolding_all exact Ev.vIsN q
end
section
variable {S : Sto} {Q : Val → Sto → Prop}
theorem vIsNotN {v : Val} (q : Q (.bl (!decide (v = .non))) S) : V (pCmp .IsNot v .non) S Q := by with_unfolding_all exact Ev.vIsNotN q
end
section
variable {S : Sto} {Q : Val → Sto → Prop}
theorem vInS {x y : Str} (q : Q (.bl (inStr x y)) S) : V (pCmp .In (.str x) (.str y)) S Q := by with_unfolding_all exact Ev.vInS q
end
section
variable {S : Sto} {Q : Val → Sto → Prop}
theorem vLtS {x y : Str} (q : Q (.bl (ltStr x y)) S) : V (pCmp .Lt (.str x) (.str y)) S Q := by with_unfolding_all exact Ev.vLtS q
end
section
variable {S : Sto} {Q : Val → Sto → Prop}
theorem vLeS {x y : Str} (q : Q (.bl (!ltStr y x)) S) : V (pCmp .LtE (.str x) (.str y)) S Q := by with_unfolding_all exact Ev.vLeS q
end
section
variable {S : Sto} {Q : Val → Sto → Prop}
theorem vTuple {k : Bool} {xs : List Val} (q : Q (.tup xs) S) : V (pSq "tuple" k xs) S Q := by with_unfolding_all exact Ev.vTuple q
end
section
variable {S : Sto} {Q : Val → Sto → Prop}
theorem vList {k : Bool} {xs : List Val} (q : Q (.loc S.length) (S ++ [.lst xs])) : V (pSq "list" k xs) S Q := by with_unfolding_all exact Ev.vList q
end
section
variable {S : Sto} {Q : Val → Sto → Prop}
theorem vAll {bs : List Bool} (q : Q (.bl (bs.all id)) S) : V (pSq "all" true (bs.map .bl)) S Q  := by with_unfolding_all exact Ev.vAll q
end
section
variable {S : Sto} {Q : Val → Sto → Prop}
theorem vAny {bs : List Bool} (q : Q (.bl (bs.any id)) S) : V (pSq "any" true (bs.map .bl)) S Q  := by with_unfolding_all exact Ev.vAny q
end
section
variable {S : Sto} {Q : Val → Sto → Prop}
theorem vSeqT {xs : List Val} {Q : Bool × List Val → Sto → Prop} (q : Q (false, xs) S) : V (pSeq (.tup xs)) S Q := by with_unfolding_all exact Ev.vSeqT q
end
section
variable {S : Sto} {Q : Val → Sto → Prop}
theorem vSeqL {n : Nat} {xs : List Val} {Q : Bool × List Val → Sto → Prop} (h : S[n]? = some (.lst xs)) (q : Q (true, xs) S) : V (pSeq (.loc n)) S Q  := by with_unfolding_all exact Ev.vSeqL h q
end
section
variable {S : Sto} {Q : Val → Sto → Prop}
theorem vAbs {i : Int} (q : Q (.int (if i < 0 then -i else i)) S) : V (pBi "abs" [.int i]) S Q := by with_unfolding_all exact Ev.vAbs q
end
section
variable {S : Sto} {Q : Val → Sto → Prop}
theorem vMin {i j : Int} (q : Q (.int (if j < i then j else i)) S) : V (pBi "min" [.int i, .int j]) S Q := by with_unfolding_all exact Ev.vMin q
end
section
variable {S : Sto} {Q : Val → Sto → Prop}
theorem vMax {i j : Int} (q : Q (.int (if j > i then j else i)) S) : V (pBi "max" [.int i, .int j]) S Q := by with_unfolding_all exact Ev.vMax q
end
section
variable {S : Sto} {Q : Val → Sto → Prop}
theorem vStrI {i : Int} (h : i.natAbs < 2 ^ 1900) (q : Q (.str (toString i)) S) : V (pBi "str" [.int i]) S Q  := by with_unfolding_all exact Ev.vStrI h q
end
section
variable {S : Sto} {Q : Val → Sto → Prop}
theorem vTyL {n : Nat} {xs : List Val} {Q : String → Sto → Prop} (h : S[n]? = some (.lst xs)) (q : Q "list" S) : V (pTy (.loc n)) S Q  := by with_unfolding_all exact Ev.vTyL h q
end
section
variable {S : Sto} {Q : Val → Sto → Prop}
theorem vTyS {x : Str} {Q : String → Sto → Prop} (q : Q "str" S) : V (pTy (.str x)) S Q := by with_unfolding_all exact Ev.vTyS q
end
section
variable {S : Sto} {Q : Val → Sto → Prop}
theorem vApp {n : Nat} {xs : List Val} {v : Val} (h : S[n]? = some (.lst xs)) (hl : xs.length < sizeLine) (q : Q .non (S.set n (.lst (xs ++ [v])))) : V (pMet "list" "append" (.loc n) [v]) S Q  := by with_unfolding_all exact Ev.vApp h hl q
end
section
variable {S : Sto} {Q : Val → Sto → Prop}
theorem vExt {n : Nat} {xs ys : List Val} (h : S[n]? = some (.lst xs)) (hl : xs.length + ys.length ≤ sizeLine) (q : Q .non (S.set n (.lst (xs ++ ys)))) : V (if "list" = "list" ∧ true = true then pExt (.loc n) ys else bad) S Q  := by with_unfolding_all exact Ev.vExt h hl q
end
section
variable {S : Sto} {Q : Val → Sto → Prop}
theorem vRng {i : Int} {Q : Walk → Sto → Prop} (h0 : 0 ≤ i) (h : i < 2 ^ 62) (q : Q ⟨(List.range i.toNat).map fun k => .int (k : Nat), []⟩ S) : V (pRng1 (.int i)) S Q  := by with_unfolding_all exact Ev.vRng h0 h q
end
section
variable {S : Sto} {Q : Val → Sto → Prop}
theorem vWalkL {n : Nat} {xs : List Val} {Q : Walk → Sto → Prop} (h : S[n]? = some (.lst xs)) (q : Q ⟨xs, [(n, xs)]⟩ S) : V (pWalk (.loc n)) S Q  := by with_unfolding_all exact Ev.vWalkL h q
end
section
variable {S : Sto} {Q : Val → Sto → Prop}
theorem vWalkT {xs : List Val} {Q : Walk → Sto → Prop} (q : Q ⟨xs, []⟩ S) : V (pWalk (.tup xs)) S Q := by with_unfolding_all exact Ev.vWalkT q
end
section
variable {S : Sto} {Q : Val → Sto → Prop}
theorem vWalkS {x : Str} {Q : Walk → Sto → Prop} (q : Q ⟨signs x, []⟩ S) : V (pWalk (.str x)) S Q := by with_unfolding_all exact Ev.vWalkS q
end
section
variable {S : Sto} {Q : Val → Sto → Prop}
theorem vZipL {n m : Nat} {xs ys : List Val} {Q : Walk → Sto → Prop} (h1 : S[n]? = some (.lst xs)) (h2 : S[m]? = some (.lst ys)) (q : Q ⟨(xs.zip ys).map fun p => .tup [p.1, p.2], [(n, xs), (m, ys)]⟩ S) : V (pZip (.loc n) (.loc m)) S Q  := by with_unfolding_all exact Ev.vZipL h1 h2 q
end
section
variable {S : Sto} {Q : Val → Sto → Prop}
theorem vRev {xs : List Val} (q : Q (.loc S.length) (S ++ [.lst xs.reverse])) : V (if (true, xs).1 then pAlloc (.lst (true, xs).2.reverse) else pure (.tup (true, xs).2.reverse)) S Q := by with_unfolding_all exact Ev.vRev q
end
section
variable {S : Sto} {Q : Val → Sto → Prop}
theorem vRevT {xs : List Val} (q : Q (.tup xs.reverse) S) : V (if (false, xs).1 then pAlloc (.lst (false, xs).2.reverse) else pure (.tup (false, xs).2.reverse)) S Q := by with_unfolding_all exact Ev.vRevT q
end
section
variable {S : Sto} {Q : Val → Sto → Prop}
theorem vDict {k : Bool} {xs : List Val} {ps : List (L2.Key × Val)} (h : pairsOf xs = some ps) (q : Q (.loc S.length) (S ++ [.dic (dicOf ps)])) : V (pSq "dict" k xs) S Q  := by with_unfolding_all exact Ev.vDict h q
end
section
variable {S : Sto} {Q : Val → Sto → Prop}
theorem vIdxD {n : Nat} {kvs : List (L2.Key × Val)} {x : Str} {v : Val} (h : S[n]? = some (.dic kvs)) (e : dicGet kvs (.inr x) = some v) (q : Q v S) : V (pIdx (.loc n) (.str x)) S Q  := by with_unfolding_all exact Ev.vIdxD h e q
end
section
variable {S : Sto} {Q : Val → Sto → Prop}
theorem vInD {n : Nat} {kvs : List (L2.Key × Val)} {x : Str} (h : S[n]? = some (.dic kvs)) (q : Q (.bl (dicGet kvs (.inr x)).isSome) S) : V (pCmp .In (.str x) (.loc n)) S Q  := by with_unfolding_all exact Ev.vInD h q
end
section
variable {S : Sto} {Q : Val → Sto → Prop}
theorem vNinD {n : Nat} {kvs : List (L2.Key × Val)} {x : Str} (h : S[n]? = some (.dic kvs)) (q : Q (.bl (!(dicGet kvs (.inr x)).isSome)) S) : V (pCmp .NotIn (.str x) (.loc n)) S Q  := by with_unfolding_all exact Ev.vNinD h q
end
section
variable {S : Sto} {Q : Val → Sto → Prop}
theorem vSum {ns : List Int} (q : Q (.int ns.sum) S) : V (pSq "sum" true (ns.map .int)) S Q  := by with_unfolding_all exact Ev.vSum q
end
section
variable {S : Sto} {Q : Val → Sto → Prop}
theorem vIns {n : Nat} {xs : List Val} {v : Val} {i : Int} (h : S[n]? = some (.lst xs)) (hl : xs.length < sizeLine) (h0 : 0 ≤ i) (h1 : i < 2 ^ 63) (q : Q .non (S.set n (.lst (xs.take i.toNat ++ [v] ++ xs.drop i.toNat)))) : V (pMet "list" "insert" (.loc n) [.int i, v]) S Q  := by with_unfolding_all exact Ev.vIns h hl h0 h1 q
end
section
variable {S : Sto} {Q : Val → Sto → Prop}
theorem vCntL {X Y : Nat → Prop} {v : Val} {n : Nat} {d : PyData} {ds : List PyData} {k w b k' w' b' : Nat} (r : Rd X S v d) (rs : Rd Y S (.loc n) (.list ds)) (h : Fit k w b d) (hs : Fit k' w' b' (.list ds)) (h1 : k ≤ 64) (h2 : k' ≤ 64) (q : Q (.int ((ds.countP fun z => PyData.eqv z d : Nat))) S) : V (pMet "list" "count" (.loc n) [v]) S Q  := by with_unfolding_all exact Ev.vCntL r rs h hs h1 h2 q
end
section
variable {S : Sto} {Q : Val → Sto → Prop}
theorem vCntT {X Y : Nat → Prop} {v : Val} {xs : List Val} {d : PyData} {ds : List PyData} {k w b k' w' b' : Nat} (r : Rd X S v d) (rs : Rd Y S (.tup xs) (.tuple ds)) (h : Fit k w b d) (hs : Fit k' w' b' (.tuple ds)) (h1 : k ≤ 64) (h2 : k' ≤ 64) (q : Q (.int ((ds.countP fun z => PyData.eqv z d : Nat))) S) : V (pMet "tuple" "count" (.tup xs) [v]) S Q  := by with_unfolding_all exact Ev.vCntT r rs h hs h1 h2 q
end
section
variable {S : Sto} {Q : Val → Sto → Prop}
theorem vTyT {xs : List Val} {Q : String → Sto → Prop} (q : Q "tuple" S) : V (pTy (.tup xs)) S Q := by with_unfolding_all exact Ev.vTyT q
end
section
variable {S : Sto} {Q : Val → Sto → Prop}
theorem vEnumT {xs : List Val} {Q : Walk → Sto → Prop} (q : Q ⟨xs.zipIdx.map fun p => .tup [.int (p.2 : Nat), p.1], []⟩ S) : V (pEnum (.tup xs)) S Q := by with_unfolding_all exact Ev.vEnumT q
end
section
variable {S : Sto} {Q : Val → Sto → Prop}
theorem vEnumL {n : Nat} {xs : List Val} {Q : Walk → Sto → Prop} (h : S[n]? = some (.lst xs)) (q : Q ⟨xs.zipIdx.map fun p => .tup [.int (p.2 : Nat), p.1], [(n, xs)]⟩ S) : V (pEnum (.loc n)) S Q  := by with_unfolding_all exact Ev.vEnumL h q
end
section
variable {S : Sto} {Q : Val → Sto → Prop}
theorem vZipT {xs ys : List Val} {Q : Walk → Sto → Prop} (q : Q ⟨(xs.zip ys).map fun p => .tup [p.1, p.2], []⟩ S) : V (pZip (.tup xs) (.tup ys)) S Q := by with_unfolding_all exact Ev.vZipT q
end
section
variable {S : Sto} {Q : Val → Sto → Prop}
theorem vIntB {c : Bool} (q : Q (.int (if c then 1 else 0)) S) : V (pBi "int" [.bl c]) S Q := by with_unfolding_all exact Ev.vIntB q
end
section
variable {S : Sto} {Q : Val → Sto → Prop}
theorem vAugS {i j : Int} (q : Q (.int (i - j)) S) : V (pAug .Sub (.int i) (.int j)) S Q := by with_unfolding_all exact Ev.vAugS q
end
section
variable {S : Sto} {Q : Val → Sto → Prop}
theorem vNeI {i j : Int} (q : Q (.bl (!decide (i = j))) S) : V (pCmp .NotEq (.int i) (.int j)) S Q := by with_unfolding_all exact Ev.vNeI q
end
section
variable {S : Sto} {Q : Val → Sto → Prop}
theorem vNeS {i j : Str} (q : Q (.bl (!decide (i = j))) S) : V (pCmp .NotEq (.str i) (.str j)) S Q := by with_unfolding_all exact Ev.vNeS q
end
section
variable {S : Sto} {Q : Val → Sto → Prop}
theorem vInT {X Y : Nat → Prop} {v : Val} {xs : List Val} {d : PyData} {ds : List PyData} {k w b k' w' b' : Nat} (r : Rd X S v d) (rs : Rd Y S (.tup xs) (.tuple ds)) (h : Fit k w b d) (hs : Fit k' w' b' (.tuple ds)) (h1 : k ≤ 64) (h2 : k' ≤ 64) (q : Q (.bl (ds.any fun z => PyData.eqv z d)) S) : V (pCmp .In v (.tup xs)) S Q  := by with_unfolding_all exact Ev.vInT r rs h hs h1 h2 q
end
section
variable {S : Sto} {Q : Val → Sto → Prop}
theorem vInL {X Y : Nat → Prop} {v : Val} {n : Nat} {d : PyData} {ds : List PyData} {k w b k' w' b' : Nat} (r : Rd X S v d) (rs : Rd Y S (.loc n) (.list ds)) (h : Fit k w b d) (hs : Fit k' w' b' (.list ds)) (h1 : k ≤ 64) (h2 : k' ≤ 64) (q : Q (.bl (ds.any fun z => PyData.eqv z d)) S) : V (pCmp .In v (.loc n)) S Q  := by with_unfolding_all exact Ev.vInL r rs h hs h1 h2 q
end
section
variable {S : Sto} {Q : Val → Sto → Prop}
theorem vNinL {X Y : Nat → Prop} {v : Val} {n : Nat} {d : PyData} {ds : List PyData} {k w b k' w' b' : Nat} (r : Rd X S v d) (rs : Rd Y S (.loc n) (.list ds)) (h : Fit k w b d) (hs : Fit k' w' b' (.list ds)) (h1 : k ≤ 64) (h2 : k' ≤ 64) (q : Q (.bl (!(ds.any fun z => PyData.eqv z d))) S) : V (pCmp .NotIn v (.loc n)) S Q  := by with_unfolding_all exact Ev.vNinL r rs h hs h1 h2 q
end
section
variable {S : Sto} {Q : Val → Sto → Prop}
theorem vAddBI {c : Bool} {j : Int} (q : Q (.int ((if c then 1 else 0) + j)) S) : V (pBin .Add (.bl c) (.int j)) S Q := by with_unfolding_all exact Ev.vAddBI q
end
section
variable {S : Sto} {Q : Val → Sto → Prop}
theorem vSubBI {c : Bool} {j : Int} (q : Q (.int ((if c then 1 else 0) - j)) S) : V (pBin .Sub (.bl c) (.int j)) S Q := by with_unfolding_all exact Ev.vSubBI q
end
section
variable {S : Sto} {Q : Val → Sto → Prop}
theorem vNegB {c : Bool} (q : Q (.int (-(if c then 1 else 0))) S) : V (pNeg (.bl c)) S Q := by with_unfolding_all exact Ev.vNegB q
end
section
variable {C : Ctx} {ρ : Env} {S : Sto} {ss : Sxs} {v : Val}
theorem aNx {Q : Flo → Sto → Prop} (h : V (xSs C ss ρ) S Q) : aft C ss Q (.nx ρ) S := by with_unfolding_all exact h
theorem aRt {Q : Flo → Sto → Prop} (h : Q (.rt v) S) : aft C ss Q (.rt v) S := by with_unfolding_all exact h
theorem aBk {Q : Flo → Sto → Prop} (h : Q (.bk ρ) S) : aft C ss Q (.bk ρ) S := by with_unfolding_all exact h
theorem aCt {Q : Flo → Sto → Prop} (h : Q (.ct ρ) S) : aft C ss Q (.ct ρ) S := by with_unfolding_all exact h
theorem rNx {Q : Val → Sto → Prop} (h : Q .non S) : ret Q (.nx ρ) S := by with_unfolding_all exact h
theorem rRt {Q : Val → Sto → Prop} (h : Q v S) : ret Q (.rt v) S := by with_unfolding_all exact h
theorem w_ok {α : Type} {m : M α} {a : α} {S S' : Sto} {Q : α → Sto → Prop} (h : m S = .ok a S') (q : Q a S') : V m S Q := by unfold V; exact ⟨a, S', h, q⟩
theorem toV {α : Type} {m : M α} {S : Sto} {Q : α → Sto → Prop} (h : W m S Q) : V m S Q := by unfold V; exact h
theorem ofV {α : Type} {m : M α} {S : Sto} {Q : α → Sto → Prop} (h : V m S Q) : W m S Q := by unfold V at h; exact h
theorem w_run {f : Fn} {vs : List Val} {Q : Val → Sto → Prop} (hl : vs.length = f.ps.length) (h : V (xSs C f.body (start f.N.length vs)) S (ret Q)) : V (xRun C f vs) S Q := by with_unfolding_all exact Ev.w_run hl h
theorem w_sem {D : List Fn} {glo : Str → Option Val} {scr : List Int} {gas n : Nat} {g : Str} {f : Fn} {vs : List Val} {Q : Val → Sto → Prop} (hf : D.find? (fun f => decide (f.name = g)) = some f) (hl : vs.length = f.ps.length)
    (h : V (xSs ⟨xSem D glo scr gas n, glo, scr, gas⟩ f.body (start f.N.length vs)) S (ret Q)) : V (xSem D glo scr gas (n + 1) g vs) S Q := by with_unfolding_all exact Ev.w_sem hf hl h
def tDef : Ex → Bool
  | .not _ => false
  | .and _ _ => false
  | .or _ _ => false
  | .ite _ _ _ => false
  | _ => true
def qDef : Ex → Bool
  | .lst _ => false
  | .com _ _ _ _ _ => false
  | _ => true
theorem tOf {e : Ex} {Q : Bool → Sto → Prop} (ht : tDef e = true) (h : V (xE C e ρ) S fun x S1 => V (pTru x) S1 Q) : V (xT C e ρ) S Q := by
  have e1 : evT C e ρ = (evE C e ρ >>= tru) := by cases e <;> first | rfl | cases ht
  unfold V xT
  exact Ev.tOf e1 (by with_unfolding_all exact h)
theorem qOf {e : Ex} {Q : Bool × List Val → Sto → Prop} (ht : qDef e = true) (h : V (xE C e ρ) S fun x S1 => V (pSeq x) S1 Q) : V (xQ C e ρ) S Q := by
  have e1 : evQ C e ρ = (evE C e ρ >>= seqM) := by cases e <;> first | rfl | cases ht
  unfold V xQ
  exact Ev.qOf e1 (by with_unfolding_all exact h)
theorem tOne {vs : List Nat} {t : Tg} {c e : Ex} {x : Val} {ρ' : Env} {Q : Option Val → Sto → Prop} (ha : asg t x (wipe ρ vs) = some ρ') (h : V (xT C c ρ') S fun b S1 => if b = true then V (xE C e ρ') S1 fun y S2 => Q (some y) S2 else Q none S1) : V (xTurn C vs t c e ρ x) S Q := by
  unfold V xTurn turnOf
  refine Ev.w_bind (Ev.w_opt ha (Ev.w_bind (Ev.w_mono (show W (evT C c ρ') S _ by with_unfolding_all exact h) fun b S1 h1 => ?_)))
  cases b with
  | true =>
    rw [if_pos rfl] at h1
    exact Ev.w_bind (Ev.w_mono (show W (evE C e ρ') S1 _ by with_unfolding_all exact h1) fun y S2 q => Ev.w_pure q)
  | false =>
    rw [if_neg Bool.false_ne_true] at h1
    exact Ev.w_pure h1
end
end R
end Ev

end

section
/-! PS: the rules as steps, found by their heads. -/
namespace Ev
open PySem PyProof.Rows
/-- G by P -/
class St (G : Prop) (P : outParam Prop) : Prop where
  go : P → G
section
variable {C : Ctx} {ρ : Env} {S : Sto} {Q : Flo → Sto → Prop} {a b c e o i : Ex} {s : Sx} {ss x y : Sxs}
instance  : St (V (xSs C (.cons s ss) ρ) S Q) (V (xS C s ρ) S (aft C ss Q)) := ⟨Ev.R.ssCons⟩
end
section
variable {C : Ctx} {ρ : Env} {S : Sto} {ss : Sxs} {v : Val}
instance {Q : Flo → Sto → Prop} : St (aft C ss Q (.nx ρ) S) (V (xSs C ss ρ) S Q) := ⟨Ev.R.aNx⟩
end
section
variable {C : Ctx} {ρ : Env} {S : Sto} {ss : Sxs} {v : Val}
instance {Q : Flo → Sto → Prop} : St (aft C ss Q (.rt v) S) (Q (.rt v) S) := ⟨Ev.R.aRt⟩
end
section
variable {C : Ctx} {ρ : Env} {S : Sto} {ss : Sxs} {v : Val}
instance {Q : Flo → Sto → Prop} : St (aft C ss Q (.bk ρ) S) (Q (.bk ρ) S) := ⟨Ev.R.aBk⟩
end
section
variable {C : Ctx} {ρ : Env} {S : Sto} {ss : Sxs} {v : Val}
instance {Q : Flo → Sto → Prop} : St (aft C ss Q (.ct ρ) S) (Q (.ct ρ) S) := ⟨Ev.R.aCt⟩
end
section
variable {C : Ctx} {ρ : Env} {S : Sto} {ss : Sxs} {v : Val}
instance {Q : Val → Sto → Prop} : St (ret Q (.rt v) S) (Q v S) := ⟨Ev.R.rRt⟩
end
section
variable {C : Ctx} {ρ : Env} {S : Sto} {ss : Sxs} {v : Val}
instance {Q : Val → Sto → Prop} : St (ret Q (.nx ρ) S) (Q .non S) := ⟨Ev.R.rNx⟩
end
section
variable {C : Ctx} {ρ : Env} {S : Sto} {Q : Flo → Sto → Prop} {a b c e o i : Ex} {s : Sx} {ss x y : Sxs}
instance  : St (V (xSs C .nil ρ) S Q) (Q (.nx ρ) S) := ⟨Ev.R.ssNil⟩
end
section
variable {C : Ctx} {ρ : Env} {S : Sto} {Q : Flo → Sto → Prop} {a b c e o i : Ex} {s : Sx} {ss x y : Sxs}
instance  : St (V (xS C (.ifs c x y) ρ) S Q) (V (xT C c ρ) S fun t S1 => V (if t then xSs C x ρ else xSs C y ρ) S1 Q) := ⟨Ev.R.sIf⟩
end
section
variable {C : Ctx} {ρ : Env} {S : Sto} {Q : Flo → Sto → Prop} {a b c e o i : Ex} {s : Sx} {ss x y : Sxs}
instance {t : Tg} : St (V (xS C (.set t e) ρ) S Q) (V (xE C e ρ) S fun v S1 => ∃ ρ', asg t v ρ = some ρ' ∧ Q (.nx ρ') S1) := ⟨Ev.R.sSet⟩
end
section
variable {C : Ctx} {ρ : Env} {S : Sto} {Q : Flo → Sto → Prop} {a b c e o i : Ex} {s : Sx} {ss x y : Sxs}
instance  : St (V (xS C (.ret e) ρ) S Q) (V (xE C e ρ) S fun v S1 => Q (.rt v) S1) := ⟨Ev.R.sRet⟩
end
section
variable {C : Ctx} {ρ : Env} {S : Sto} {Q : Flo → Sto → Prop} {a b c e o i : Ex} {s : Sx} {ss x y : Sxs}
instance  : St (V (xS C (.expr e) ρ) S Q) (V (xE C e ρ) S fun _ S1 => Q (.nx ρ) S1) := ⟨Ev.R.sExpr⟩
end
section
variable {C : Ctx} {ρ : Env} {S : Sto} {Q : Flo → Sto → Prop} {a b c e o i : Ex} {s : Sx} {ss x y : Sxs}
instance  : St (V (xS C (.sub o i e) ρ) S Q) (V (xE C e ρ) S fun v S1 => V (xE C o ρ) S1 fun x S2 => V (xE C i ρ) S2 fun y S3 => V (pSet x y v) S3 fun _ S4 => Q (.nx ρ) S4) := ⟨Ev.R.sSub⟩
end
section
variable {C : Ctx} {ρ : Env} {S : Sto} {Q : Flo → Sto → Prop} {a b c e o i : Ex} {s : Sx} {ss x y : Sxs}
instance {op : Operator} : St (V (xS C (.augs o i op e) ρ) S Q) (V (xE C o ρ) S fun x S1 => V (xE C i ρ) S1 fun y S2 => V (pGet x y) S2 fun a S3 => V (xE C e ρ) S3 fun b S4 => V (pAug op a b) S4 fun z S5 => V (pSet x y z) S5 fun _ S6 => Q (.nx ρ) S6) := ⟨Ev.R.sAugs⟩
end
section
variable {C : Ctx} {ρ : Env} {S : Sto} {Q : Flo → Sto → Prop} {a b c e o i : Ex} {s : Sx} {ss x y : Sxs}
instance {t : Tg} {it : It} : St (V (xS C (.for_ t it x) ρ) S Q) (V (xI C it ρ) S fun w S1 => V (xFor w t (xSs C x) w.xs ρ) S1 Q) := ⟨Ev.R.sFor⟩
end
section
variable {C : Ctx} {ρ : Env} {S : Sto} {Q : Flo → Sto → Prop} {a b c e o i : Ex} {s : Sx} {ss x y : Sxs}
instance  : St (V (xS C (.whl c x) ρ) S Q) (V (xWhl (xT C c) (xSs C x) C.gas ρ) S Q) := ⟨Ev.R.sWhl⟩
end
section
variable {C : Ctx} {ρ : Env} {S : Sto} {Q : Flo → Sto → Prop} {a b c e o i : Ex} {s : Sx} {ss x y : Sxs}
instance  : St (V (xS C .pass ρ) S Q) (Q (.nx ρ) S) := ⟨Ev.R.sPass⟩
end
section
variable {C : Ctx} {ρ : Env} {S : Sto} {Q : Flo → Sto → Prop} {a b c e o i : Ex} {s : Sx} {ss x y : Sxs}
instance  : St (V (xS C .brk ρ) S Q) (Q (.bk ρ) S) := ⟨Ev.R.sBrk⟩
end
section
variable {C : Ctx} {ρ : Env} {S : Sto} {Q : Flo → Sto → Prop} {a b c e o i : Ex} {s : Sx} {ss x y : Sxs}
instance  : St (V (xS C .cnt ρ) S Q) (Q (.ct ρ) S) := ⟨Ev.R.sCnt⟩
end
section
variable {C : Ctx} {ρ : Env} {S : Sto} {Q : Val → Sto → Prop} {a b c e : Ex} {es : Exs}
instance {i : Int} : St (V (xE C (.int i) ρ) S Q) (Q (.int i) S) := ⟨Ev.R.eInt⟩
end
section
variable {C : Ctx} {ρ : Env} {S : Sto} {Q : Val → Sto → Prop} {a b c e : Ex} {es : Exs}
instance {x : Str} : St (V (xE C (.str x) ρ) S Q) (Q (.str x) S) := ⟨Ev.R.eStr⟩
end
section
variable {C : Ctx} {ρ : Env} {S : Sto} {Q : Val → Sto → Prop} {a b c e : Ex} {es : Exs}
instance {b : Bool} : St (V (xE C (.bl b) ρ) S Q) (Q (.bl b) S) := ⟨Ev.R.eBl⟩
end
section
variable {C : Ctx} {ρ : Env} {S : Sto} {Q : Val → Sto → Prop} {a b c e : Ex} {es : Exs}
instance  : St (V (xE C .non ρ) S Q) (Q .non S) := ⟨Ev.R.eNon⟩
end
section
variable {C : Ctx} {ρ : Env} {S : Sto} {Q : Val → Sto → Prop} {a b c e : Ex} {es : Exs}
instance {n : String} : St (V (xE C (.ty n) ρ) S Q) (Q (.ty n) S) := ⟨Ev.R.eTy⟩
end
section
variable {C : Ctx} {ρ : Env} {S : Sto} {Q : Val → Sto → Prop} {a b c e : Ex} {es : Exs}
instance {op : Operator} : St (V (xE C (.bin op a b) ρ) S Q) (V (xE C a ρ) S fun x S1 => V (xE C b ρ) S1 fun y S2 => V (pBin op x y) S2 Q) := ⟨Ev.R.eBin⟩
end
section
variable {C : Ctx} {ρ : Env} {S : Sto} {Q : Val → Sto → Prop} {a b c e : Ex} {es : Exs}
instance  : St (V (xE C (.neg a) ρ) S Q) (V (xE C a ρ) S fun x S1 => V (pNeg x) S1 Q) := ⟨Ev.R.eNeg⟩
end
section
variable {C : Ctx} {ρ : Env} {S : Sto} {Q : Val → Sto → Prop} {a b c e : Ex} {es : Exs}
instance  : St (V (xE C (.not a) ρ) S Q) (V (xE C a ρ) S fun x S1 => V (pTru x) S1 fun t S2 => Q (.bl (!t)) S2) := ⟨Ev.R.eNot⟩
end
section
variable {C : Ctx} {ρ : Env} {S : Sto} {Q : Val → Sto → Prop} {a b c e : Ex} {es : Exs}
instance {op : CmpOp} : St (V (xE C (.cmp op a b) ρ) S Q) (V (xE C a ρ) S fun x S1 => V (xE C b ρ) S1 fun y S2 => V (pCmp op x y) S2 Q) := ⟨Ev.R.eCmp⟩
end
section
variable {C : Ctx} {ρ : Env} {S : Sto} {Q : Val → Sto → Prop} {a b c e : Ex} {es : Exs}
instance {op op' : CmpOp} : St (V (xE C (.chn op op' a b c) ρ) S Q) (V (xE C a ρ) S fun x S1 => V (xE C b ρ) S1 fun y S2 => V (pCmp op x y) S2 fun z S3 => V (pTru z) S3 fun t S4 => V (if t then (xE C c ρ >>= fun w => pCmp op' y w) else pure z) S4 Q) := ⟨Ev.R.eChn⟩
end
section
variable {C : Ctx} {ρ : Env} {S : Sto} {Q : Val → Sto → Prop} {a b c e : Ex} {es : Exs}
instance  : St (V (xE C (.and a b) ρ) S Q) (V (xE C a ρ) S fun x S1 => V (pTru x) S1 fun t S2 => V (if t then xE C b ρ else pure x) S2 Q) := ⟨Ev.R.eAnd⟩
end
section
variable {C : Ctx} {ρ : Env} {S : Sto} {Q : Val → Sto → Prop} {a b c e : Ex} {es : Exs}
instance  : St (V (xE C (.or a b) ρ) S Q) (V (xE C a ρ) S fun x S1 => V (pTru x) S1 fun t S2 => V (if t then pure x else xE C b ρ) S2 Q) := ⟨Ev.R.eOr⟩
end
section
variable {C : Ctx} {ρ : Env} {S : Sto} {Q : Val → Sto → Prop} {a b c e : Ex} {es : Exs}
instance  : St (V (xE C (.ite c a b) ρ) S Q) (V (xT C c ρ) S fun t S1 => V (if t then xE C a ρ else xE C b ρ) S1 Q) := ⟨Ev.R.eIte⟩
end
section
variable {C : Ctx} {ρ : Env} {S : Sto} {Q : Val → Sto → Prop} {a b c e : Ex} {es : Exs}
instance  : St (V (xE C (.tup es) ρ) S Q) (V (xEs C es ρ) S fun xs S1 => Q (.tup xs) S1) := ⟨Ev.R.eTup⟩
end
section
variable {C : Ctx} {ρ : Env} {S : Sto} {Q : Val → Sto → Prop} {a b c e : Ex} {es : Exs}
instance  : St (V (xE C (.lst es) ρ) S Q) (V (xEs C es ρ) S fun xs S1 => Q (.loc S1.length) (S1 ++ [.lst xs])) := ⟨Ev.R.eLst⟩
end
section
variable {C : Ctx} {ρ : Env} {S : Sto} {Q : Val → Sto → Prop} {a b c e : Ex} {es : Exs}
instance  : St (V (xE C .dic ρ) S Q) (Q (.loc S.length) (S ++ [.dic []])) := ⟨Ev.R.eDic⟩
end
section
variable {C : Ctx} {ρ : Env} {S : Sto} {Q : Val → Sto → Prop} {a b c e : Ex} {es : Exs}
instance {f : Str} : St (V (xE C (.call f es) ρ) S Q) (V (xEs C es ρ) S fun xs S1 => V (C.call f xs) S1 Q) := ⟨Ev.R.eCall⟩
end
section
variable {C : Ctx} {ρ : Env} {S : Sto} {Q : Val → Sto → Prop} {a b c e : Ex} {es : Exs}
instance {f : String} : St (V (xE C (.bi f es) ρ) S Q) (V (xEs C es ρ) S fun xs S1 => V (pBi f xs) S1 Q) := ⟨Ev.R.eBi⟩
end
section
variable {C : Ctx} {ρ : Env} {S : Sto} {Q : Val → Sto → Prop} {a b c e : Ex} {es : Exs}
instance {f : String} : St (V (xE C (.sq f e) ρ) S Q) (V (xQ C e ρ) S fun q S1 => V (pSq f q.1 q.2) S1 Q) := ⟨Ev.R.eSq⟩
end
section
variable {C : Ctx} {ρ : Env} {S : Sto} {Q : Val → Sto → Prop} {a b c e : Ex} {es : Exs}
instance {o : Ex} : St (V (xE C (.ext o e) ρ) S Q) (V (xE C o ρ) S fun x S1 => V (pTy x) S1 fun T S2 => V (xQ C e ρ) S2 fun q S3 => V (if T = "list" ∧ q.1 = true then pExt x q.2 else bad) S3 Q) := ⟨Ev.R.eExt⟩
end
section
variable {C : Ctx} {ρ : Env} {S : Sto} {Q : Val → Sto → Prop} {a b c e : Ex} {es : Exs}
instance {o : Ex} {m : String} : St (V (xE C (.met o m es) ρ) S Q) (V (xE C o ρ) S fun x S1 => V (pTy x) S1 fun T S2 => V (xEs C es ρ) S2 fun xs S3 => V (pMet T m x xs) S3 Q) := ⟨Ev.R.eMet⟩
end
section
variable {C : Ctx} {ρ : Env} {S : Sto} {Q : Val → Sto → Prop} {a b c e : Ex} {es : Exs}
instance  : St (V (xE C (.idx a b) ρ) S Q) (V (xE C a ρ) S fun x S1 => V (xE C b ρ) S1 fun y S2 => V (pIdx x y) S2 Q) := ⟨Ev.R.eIdx⟩
end
section
variable {C : Ctx} {ρ : Env} {S : Sto} {Q : Val → Sto → Prop} {a b c e : Ex} {es : Exs}
instance  : St (V (xE C (.sli a b c) ρ) S Q) (V (xE C a ρ) S fun x S1 => V (xE C b ρ) S1 fun y S2 => V (xE C c ρ) S2 fun z S3 => V (pSli C.scr (isNon b) (isNon c) x y z) S3 Q) := ⟨Ev.R.eSli⟩
end
section
variable {C : Ctx} {ρ : Env} {S : Sto} {Q : Val → Sto → Prop} {a b c e : Ex} {es : Exs}
instance {Q : Val → Sto → Prop} : St (V (xE C (.rev a) ρ) S Q) (V (xQ C a ρ) S fun q S1 => V (if q.1 then pAlloc (.lst q.2.reverse) else pure (.tup q.2.reverse)) S1 Q) := ⟨Ev.R.eRev⟩
end
section
variable {C : Ctx} {ρ : Env} {S : Sto} {Q : Val → Sto → Prop} {a b c e : Ex} {es : Exs}
instance {vs : List Nat} {tg : Tg} {it : It} : St (V (xE C (.com vs tg it c e) ρ) S Q) (V (xI C it ρ) S fun w S1 => w.xs.length ≤ sizeLine ∧ V (xCom w (xTurn C vs tg c e ρ) w.xs) S1 fun ys S2 => Q (.loc S2.length) (S2 ++ [.lst ys])) := ⟨Ev.R.eCom⟩
end
section
variable {C : Ctx} {ρ : Env} {S : Sto} {Q : Val → Sto → Prop} {a b c e : Ex} {es : Exs}
instance {Q : Bool → Sto → Prop} : St (V (xT C (.not a) ρ) S Q) (V (xT C a ρ) S fun t S1 => Q (!t) S1) := ⟨Ev.R.tNot⟩
end
section
variable {C : Ctx} {ρ : Env} {S : Sto} {Q : Val → Sto → Prop} {a b c e : Ex} {es : Exs}
instance {Q : Bool → Sto → Prop} : St (V (xT C (.and a b) ρ) S Q) (V (xT C a ρ) S fun t S1 => V (if t then xT C b ρ else pure false) S1 Q) := ⟨Ev.R.tAnd⟩
end
section
variable {C : Ctx} {ρ : Env} {S : Sto} {Q : Val → Sto → Prop} {a b c e : Ex} {es : Exs}
instance {Q : Bool → Sto → Prop} : St (V (xT C (.or a b) ρ) S Q) (V (xT C a ρ) S fun t S1 => V (if t then pure true else xT C b ρ) S1 Q) := ⟨Ev.R.tOr⟩
end
section
variable {C : Ctx} {ρ : Env} {S : Sto} {Q : Val → Sto → Prop} {a b c e : Ex} {es : Exs}
instance {Q : Bool → Sto → Prop} : St (V (xT C (.ite c a b) ρ) S Q) (V (xT C c ρ) S fun t S1 => V (if t then xT C a ρ else xT C b ρ) S1 Q) := ⟨Ev.R.tIte⟩
end
section
variable {C : Ctx} {ρ : Env} {S : Sto} {Q : Val → Sto → Prop} {a b c e : Ex} {es : Exs}
instance {Q : List Val → Sto → Prop} : St (V (xEs C (.cons e es) ρ) S Q) (V (xE C e ρ) S fun x S1 => V (xEs C es ρ) S1 fun xs S2 => Q (x :: xs) S2) := ⟨Ev.R.esCons⟩
end
section
variable {C : Ctx} {ρ : Env} {S : Sto} {Q : Val → Sto → Prop} {a b c e : Ex} {es : Exs}
instance {Q : List Val → Sto → Prop} : St (V (xEs C .nil ρ) S Q) (Q [] S) := ⟨Ev.R.esNil⟩
end
section
variable {C : Ctx} {ρ : Env} {S : Sto} {Q : Val → Sto → Prop} {a b c e : Ex} {es : Exs}
instance {Q : Bool × List Val → Sto → Prop} {vs : List Nat} {tg : Tg} {it : It} : St (V (xQ C (.com vs tg it c e) ρ) S Q) (V (xI C it ρ) S fun w S1 => w.xs.length ≤ sizeLine ∧ V (xCom w (xTurn C vs tg c e ρ) w.xs) S1 fun ys S2 => Q (true, ys) S2) := ⟨Ev.R.qCom⟩
end
section
variable {C : Ctx} {ρ : Env} {S : Sto} {Q : Val → Sto → Prop} {a b c e : Ex} {es : Exs}
instance {Q : Bool × List Val → Sto → Prop} : St (V (xQ C (.lst es) ρ) S Q) (V (xEs C es ρ) S fun xs S1 => Q (true, xs) S1) := ⟨Ev.R.qLst⟩
end
section
variable {C : Ctx} {ρ : Env} {S : Sto} {Q : Val → Sto → Prop} {a b c e : Ex} {es : Exs}
instance {Q : Walk → Sto → Prop} : St (V (xI C (.seq e) ρ) S Q) (V (xE C e ρ) S fun x S1 => V (pWalk x) S1 Q) := ⟨Ev.R.iSeq⟩
end
section
variable {C : Ctx} {ρ : Env} {S : Sto} {Q : Val → Sto → Prop} {a b c e : Ex} {es : Exs}
instance {Q : Walk → Sto → Prop} : St (V (xI C (.rng1 a) ρ) S Q) (V (xE C a ρ) S fun x S1 => V (pRng1 x) S1 Q) := ⟨Ev.R.iRng1⟩
end
section
variable {C : Ctx} {ρ : Env} {S : Sto} {Q : Val → Sto → Prop} {a b c e : Ex} {es : Exs}
instance {Q : Walk → Sto → Prop} : St (V (xI C (.rng2 a b) ρ) S Q) (V (xE C a ρ) S fun x S1 => V (xE C b ρ) S1 fun y S2 => V (pRng2 x y) S2 Q) := ⟨Ev.R.iRng2⟩
end
section
variable {C : Ctx} {ρ : Env} {S : Sto} {Q : Val → Sto → Prop} {a b c e : Ex} {es : Exs}
instance {Q : Walk → Sto → Prop} : St (V (xI C (.zip a b) ρ) S Q) (V (xE C a ρ) S fun x S1 => V (xE C b ρ) S1 fun y S2 => V (pZip x y) S2 Q) := ⟨Ev.R.iZip⟩
end
section
variable {C : Ctx} {ρ : Env} {S : Sto} {Q : Val → Sto → Prop} {a b c e : Ex} {es : Exs}
instance {Q : Walk → Sto → Prop} : St (V (xI C (.enum a) ρ) S Q) (V (xE C a ρ) S fun x S1 => V (pEnum x) S1 Q) := ⟨Ev.R.iEnum⟩
end
section
variable {α β : Type} {m : M α} {S : Sto} {Q R : α → Sto → Prop}
instance {m' : M α} : St (V (if true then m else m') S Q) (V m S Q) := ⟨Ev.R.w_iteT⟩
end
section
variable {α β : Type} {m : M α} {S : Sto} {Q R : α → Sto → Prop}
instance {m' : M α} : St (V (if false then m else m') S Q) (V m' S Q) := ⟨Ev.R.w_iteF⟩
end
section
variable {α β : Type} {m : M α} {S : Sto} {Q R : α → Sto → Prop}
instance {a : α} : St (V (pure a : M α) S Q) (Q a S) := ⟨Ev.R.w_pure⟩
end
section
variable {α β : Type} {m : M α} {S : Sto} {Q R : α → Sto → Prop}
instance {f : α → M β} {Q : β → Sto → Prop} : St (V (m >>= f) S Q) (V m S fun a S1 => V (f a) S1 Q) := ⟨Ev.R.w_bind⟩
end
section
variable {S : Sto} {Q : Val → Sto → Prop}
instance {b : Bool} {Q : Bool → Sto → Prop} : St (V (pTru (.bl b)) S Q) (Q b S) := ⟨Ev.R.vTruB⟩
end
section
variable {S : Sto} {Q : Val → Sto → Prop}
instance {i j : Int} : St (V (pBin .Add (.int i) (.int j)) S Q) (Q (.int (i + j)) S) := ⟨Ev.R.vAdd⟩
end
section
variable {S : Sto} {Q : Val → Sto → Prop}
instance {i j : Int} : St (V (pBin .Sub (.int i) (.int j)) S Q) (Q (.int (i - j)) S) := ⟨Ev.R.vSub⟩
end
section
variable {S : Sto} {Q : Val → Sto → Prop}
instance {i : Int} : St (V (pNeg (.int i)) S Q) (Q (.int (-i)) S) := ⟨Ev.R.vNegI⟩
end
section
variable {S : Sto} {Q : Val → Sto → Prop}
instance {i j : Int} : St (V (pCmp .Lt (.int i) (.int j)) S Q) (Q (.bl (decide (i < j))) S) := ⟨Ev.R.vLtI⟩
end
section
variable {S : Sto} {Q : Val → Sto → Prop}
instance {i j : Int} : St (V (pCmp .Gt (.int i) (.int j)) S Q) (Q (.bl (decide (j < i))) S) := ⟨Ev.R.vGtI⟩
end
section
variable {S : Sto} {Q : Val → Sto → Prop}
instance {i j : Int} : St (V (pCmp .LtE (.int i) (.int j)) S Q) (Q (.bl (!decide (j < i))) S) := ⟨Ev.R.vLeI⟩
end
section
variable {S : Sto} {Q : Val → Sto → Prop}
instance {i j : Int} : St (V (pCmp .GtE (.int i) (.int j)) S Q) (Q (.bl (!decide (i < j))) S) := ⟨Ev.R.vGeI⟩
end
section
variable {S : Sto} {Q : Val → Sto → Prop}
instance {i j : Int} : St (V (pCmp .Eq (.int i) (.int j)) S Q) (Q (.bl (decide (i = j))) S) := ⟨Ev.R.vEqI⟩
end
section
variable {S : Sto} {Q : Val → Sto → Prop}
instance {i j : Str} : St (V (pCmp .Eq (.str i) (.str j)) S Q) (Q (.bl (decide (i = j))) S) := ⟨Ev.R.vEqS⟩
end
section
variable {S : Sto} {Q : Val → Sto → Prop}
instance {i j : Int} : St (V (pAug .Add (.int i) (.int j)) S Q) (Q (.int (i + j)) S) := ⟨Ev.R.vAug⟩
end
section
variable {S : Sto} {Q : Val → Sto → Prop}
instance {xs : List Val} : St (V (pBi "len" [.tup xs]) S Q) (Q (.int xs.length) S) := ⟨Ev.R.vLenT⟩
end
section
variable {S : Sto} {Q : Val → Sto → Prop}
instance {v : Val} {c : Bool} : St (V (pCmp .Is v (.bl c)) S Q) (Q (.bl (decide (v = .bl c))) S) := ⟨Ev.R.vIsB⟩
end
section
variable {S : Sto} {Q : Val → Sto → Prop}
instance {v : Val} {c : Bool} : St (V (pCmp .IsNot v (.bl c)) S Q) (Q (.bl (!decide (v = .bl c))) S) := ⟨Ev.R.vIsNotB⟩
end
section
variable {S : Sto} {Q : Val → Sto → Prop}
instance {v : Val} : St (V (pCmp .Is v .non) S Q) (Q (.bl (decide (v = .non))) S) := ⟨Ev.R.vIsN⟩
end
section
variable {S : Sto} {Q : Val → Sto → Prop}
instance {v : Val} : St (V (pCmp .IsNot v .non) S Q) (Q (.bl (!decide (v = .non))) S) := ⟨Ev.R.vIsNotN⟩
end
section
variable {S : Sto} {Q : Val → Sto → Prop}
instance {x y : Str} : St (V (pCmp .In (.str x) (.str y)) S Q) (Q (.bl (inStr x y)) S) := ⟨Ev.R.vInS⟩
end
section
variable {S : Sto} {Q : Val → Sto → Prop}
instance {x y : Str} : St (V (pCmp .Lt (.str x) (.str y)) S Q) (Q (.bl (ltStr x y)) S) := ⟨Ev.R.vLtS⟩
end
section
variable {S : Sto} {Q : Val → Sto → Prop}
instance {x y : Str} : St (V (pCmp .LtE (.str x) (.str y)) S Q) (Q (.bl (!ltStr y x)) S) := ⟨Ev.R.vLeS⟩
end
section
variable {S : Sto} {Q : Val → Sto → Prop}
instance {c : Bool} {j : Int} : St (V (pBin .Add (.bl c) (.int j)) S Q) (Q (.int ((if c then 1 else 0) + j)) S) := ⟨Ev.R.vAddBI⟩
end
section
variable {S : Sto} {Q : Val → Sto → Prop}
instance {c : Bool} {j : Int} : St (V (pBin .Sub (.bl c) (.int j)) S Q) (Q (.int ((if c then 1 else 0) - j)) S) := ⟨Ev.R.vSubBI⟩
end
section
variable {S : Sto} {Q : Val → Sto → Prop}
instance {c : Bool} : St (V (pNeg (.bl c)) S Q) (Q (.int (-(if c then 1 else 0))) S) := ⟨Ev.R.vNegB⟩
end
section
variable {S : Sto} {Q : Val → Sto → Prop}
instance {k : Bool} {xs : List Val} : St (V (pSq "tuple" k xs) S Q) (Q (.tup xs) S) := ⟨Ev.R.vTuple⟩
end
section
variable {S : Sto} {Q : Val → Sto → Prop}
instance {k : Bool} {xs : List Val} : St (V (pSq "list" k xs) S Q) (Q (.loc S.length) (S ++ [.lst xs])) := ⟨Ev.R.vList⟩
end
section
variable {S : Sto} {Q : Val → Sto → Prop}
instance {xs : List Val} {Q : Bool × List Val → Sto → Prop} : St (V (pSeq (.tup xs)) S Q) (Q (false, xs) S) := ⟨Ev.R.vSeqT⟩
end
section
variable {S : Sto} {Q : Val → Sto → Prop}
instance {i : Int} : St (V (pBi "abs" [.int i]) S Q) (Q (.int (if i < 0 then -i else i)) S) := ⟨Ev.R.vAbs⟩
end
section
variable {S : Sto} {Q : Val → Sto → Prop}
instance {i j : Int} : St (V (pBi "min" [.int i, .int j]) S Q) (Q (.int (if j < i then j else i)) S) := ⟨Ev.R.vMin⟩
end
section
variable {S : Sto} {Q : Val → Sto → Prop}
instance {i j : Int} : St (V (pBi "max" [.int i, .int j]) S Q) (Q (.int (if j > i then j else i)) S) := ⟨Ev.R.vMax⟩
end
section
variable {S : Sto} {Q : Val → Sto → Prop}
instance {x : Str} {Q : String → Sto → Prop} : St (V (pTy (.str x)) S Q) (Q "str" S) := ⟨Ev.R.vTyS⟩
end
section
variable {S : Sto} {Q : Val → Sto → Prop}
instance {xs : List Val} {Q : Walk → Sto → Prop} : St (V (pWalk (.tup xs)) S Q) (Q ⟨xs, []⟩ S) := ⟨Ev.R.vWalkT⟩
end
section
variable {S : Sto} {Q : Val → Sto → Prop}
instance {x : Str} {Q : Walk → Sto → Prop} : St (V (pWalk (.str x)) S Q) (Q ⟨signs x, []⟩ S) := ⟨Ev.R.vWalkS⟩
end
section
variable {S : Sto} {Q : Val → Sto → Prop}
instance {xs : List Val} : St (V (if (true, xs).1 then pAlloc (.lst (true, xs).2.reverse) else pure (.tup (true, xs).2.reverse)) S Q) (Q (.loc S.length) (S ++ [.lst xs.reverse])) := ⟨Ev.R.vRev⟩
end
section
variable {S : Sto} {Q : Val → Sto → Prop}
instance {xs : List Val} : St (V (if (false, xs).1 then pAlloc (.lst (false, xs).2.reverse) else pure (.tup (false, xs).2.reverse)) S Q) (Q (.tup xs.reverse) S) := ⟨Ev.R.vRevT⟩
end
section
variable {S : Sto} {Q : Val → Sto → Prop}
instance {ns : List Int} : St (V (pSq "sum" true (ns.map .int)) S Q) (Q (.int ns.sum) S) := ⟨Ev.R.vSum⟩
end
section
variable {S : Sto} {Q : Val → Sto → Prop}
instance {xs : List Val} {Q : String → Sto → Prop} : St (V (pTy (.tup xs)) S Q) (Q "tuple" S) := ⟨Ev.R.vTyT⟩
end
section
variable {S : Sto} {Q : Val → Sto → Prop}
instance {xs : List Val} {Q : Walk → Sto → Prop} : St (V (pEnum (.tup xs)) S Q) (Q ⟨xs.zipIdx.map fun p => .tup [.int (p.2 : Nat), p.1], []⟩ S) := ⟨Ev.R.vEnumT⟩
end
section
variable {S : Sto} {Q : Val → Sto → Prop}
instance {xs ys : List Val} {Q : Walk → Sto → Prop} : St (V (pZip (.tup xs) (.tup ys)) S Q) (Q ⟨(xs.zip ys).map fun p => .tup [p.1, p.2], []⟩ S) := ⟨Ev.R.vZipT⟩
end
section
variable {S : Sto} {Q : Val → Sto → Prop}
instance {c : Bool} : St (V (pBi "int" [.bl c]) S Q) (Q (.int (if c then 1 else 0)) S) := ⟨Ev.R.vIntB⟩
end
section
variable {S : Sto} {Q : Val → Sto → Prop}
instance {i j : Int} : St (V (pAug .Sub (.int i) (.int j)) S Q) (Q (.int (i - j)) S) := ⟨Ev.R.vAugS⟩
end
section
variable {S : Sto} {Q : Val → Sto → Prop}
instance {i j : Int} : St (V (pCmp .NotEq (.int i) (.int j)) S Q) (Q (.bl (!decide (i = j))) S) := ⟨Ev.R.vNeI⟩
end
section
variable {S : Sto} {Q : Val → Sto → Prop}
instance {i j : Str} : St (V (pCmp .NotEq (.str i) (.str j)) S Q) (Q (.bl (!decide (i = j))) S) := ⟨Ev.R.vNeS⟩
end
section
variable {C : Ctx} {ρ : Env} {S : Sto}
instance (i : Nat) {Q : Bool → Sto → Prop} : St (V (xT C (.var i) ρ) S Q) (V (xE C (.var i) ρ) S fun x S1 => V (pTru x) S1 Q) := ⟨R.tOf rfl⟩
instance (i : Nat) {Q : Bool × List Val → Sto → Prop} : St (V (xQ C (.var i) ρ) S Q) (V (xE C (.var i) ρ) S fun x S1 => V (pSeq x) S1 Q) := ⟨R.qOf rfl⟩
instance (b : Bool) {Q : Bool → Sto → Prop} : St (V (xT C (.bl b) ρ) S Q) (V (xE C (.bl b) ρ) S fun x S1 => V (pTru x) S1 Q) := ⟨R.tOf rfl⟩
instance (b : Bool) {Q : Bool × List Val → Sto → Prop} : St (V (xQ C (.bl b) ρ) S Q) (V (xE C (.bl b) ρ) S fun x S1 => V (pSeq x) S1 Q) := ⟨R.qOf rfl⟩
instance (i : Int) {Q : Bool → Sto → Prop} : St (V (xT C (.int i) ρ) S Q) (V (xE C (.int i) ρ) S fun x S1 => V (pTru x) S1 Q) := ⟨R.tOf rfl⟩
instance (i : Int) {Q : Bool × List Val → Sto → Prop} : St (V (xQ C (.int i) ρ) S Q) (V (xE C (.int i) ρ) S fun x S1 => V (pSeq x) S1 Q) := ⟨R.qOf rfl⟩
instance (o : CmpOp) (a b : Ex) {Q : Bool → Sto → Prop} : St (V (xT C (.cmp o a b) ρ) S Q) (V (xE C (.cmp o a b) ρ) S fun x S1 => V (pTru x) S1 Q) := ⟨R.tOf rfl⟩
instance (o : CmpOp) (a b : Ex) {Q : Bool × List Val → Sto → Prop} : St (V (xQ C (.cmp o a b) ρ) S Q) (V (xE C (.cmp o a b) ρ) S fun x S1 => V (pSeq x) S1 Q) := ⟨R.qOf rfl⟩
instance (o o' : CmpOp) (a b c : Ex) {Q : Bool → Sto → Prop} : St (V (xT C (.chn o o' a b c) ρ) S Q) (V (xE C (.chn o o' a b c) ρ) S fun x S1 => V (pTru x) S1 Q) := ⟨R.tOf rfl⟩
instance (o o' : CmpOp) (a b c : Ex) {Q : Bool × List Val → Sto → Prop} : St (V (xQ C (.chn o o' a b c) ρ) S Q) (V (xE C (.chn o o' a b c) ρ) S fun x S1 => V (pSeq x) S1 Q) := ⟨R.qOf rfl⟩
instance (o : Operator) (a b : Ex) {Q : Bool → Sto → Prop} : St (V (xT C (.bin o a b) ρ) S Q) (V (xE C (.bin o a b) ρ) S fun x S1 => V (pTru x) S1 Q) := ⟨R.tOf rfl⟩
instance (o : Operator) (a b : Ex) {Q : Bool × List Val → Sto → Prop} : St (V (xQ C (.bin o a b) ρ) S Q) (V (xE C (.bin o a b) ρ) S fun x S1 => V (pSeq x) S1 Q) := ⟨R.qOf rfl⟩
instance (f : Str) (es : Exs) {Q : Bool → Sto → Prop} : St (V (xT C (.call f es) ρ) S Q) (V (xE C (.call f es) ρ) S fun x S1 => V (pTru x) S1 Q) := ⟨R.tOf rfl⟩
instance (f : Str) (es : Exs) {Q : Bool × List Val → Sto → Prop} : St (V (xQ C (.call f es) ρ) S Q) (V (xE C (.call f es) ρ) S fun x S1 => V (pSeq x) S1 Q) := ⟨R.qOf rfl⟩
instance (f : String) (es : Exs) {Q : Bool → Sto → Prop} : St (V (xT C (.bi f es) ρ) S Q) (V (xE C (.bi f es) ρ) S fun x S1 => V (pTru x) S1 Q) := ⟨R.tOf rfl⟩
instance (f : String) (es : Exs) {Q : Bool × List Val → Sto → Prop} : St (V (xQ C (.bi f es) ρ) S Q) (V (xE C (.bi f es) ρ) S fun x S1 => V (pSeq x) S1 Q) := ⟨R.qOf rfl⟩
instance (f : String) (e : Ex) {Q : Bool → Sto → Prop} : St (V (xT C (.sq f e) ρ) S Q) (V (xE C (.sq f e) ρ) S fun x S1 => V (pTru x) S1 Q) := ⟨R.tOf rfl⟩
instance (f : String) (e : Ex) {Q : Bool × List Val → Sto → Prop} : St (V (xQ C (.sq f e) ρ) S Q) (V (xE C (.sq f e) ρ) S fun x S1 => V (pSeq x) S1 Q) := ⟨R.qOf rfl⟩
instance (o : Ex) (m : String) (es : Exs) {Q : Bool → Sto → Prop} : St (V (xT C (.met o m es) ρ) S Q) (V (xE C (.met o m es) ρ) S fun x S1 => V (pTru x) S1 Q) := ⟨R.tOf rfl⟩
instance (o : Ex) (m : String) (es : Exs) {Q : Bool × List Val → Sto → Prop} : St (V (xQ C (.met o m es) ρ) S Q) (V (xE C (.met o m es) ρ) S fun x S1 => V (pSeq x) S1 Q) := ⟨R.qOf rfl⟩
instance (a b : Ex) {Q : Bool → Sto → Prop} : St (V (xT C (.idx a b) ρ) S Q) (V (xE C (.idx a b) ρ) S fun x S1 => V (pTru x) S1 Q) := ⟨R.tOf rfl⟩
instance (a b : Ex) {Q : Bool × List Val → Sto → Prop} : St (V (xQ C (.idx a b) ρ) S Q) (V (xE C (.idx a b) ρ) S fun x S1 => V (pSeq x) S1 Q) := ⟨R.qOf rfl⟩
instance (a b c : Ex) {Q : Bool → Sto → Prop} : St (V (xT C (.sli a b c) ρ) S Q) (V (xE C (.sli a b c) ρ) S fun x S1 => V (pTru x) S1 Q) := ⟨R.tOf rfl⟩
instance (a b c : Ex) {Q : Bool × List Val → Sto → Prop} : St (V (xQ C (.sli a b c) ρ) S Q) (V (xE C (.sli a b c) ρ) S fun x S1 => V (pSeq x) S1 Q) := ⟨R.qOf rfl⟩
instance (x : Str) {Q : Bool → Sto → Prop} : St (V (xT C (.glo x) ρ) S Q) (V (xE C (.glo x) ρ) S fun x S1 => V (pTru x) S1 Q) := ⟨R.tOf rfl⟩
instance (x : Str) {Q : Bool × List Val → Sto → Prop} : St (V (xQ C (.glo x) ρ) S Q) (V (xE C (.glo x) ρ) S fun x S1 => V (pSeq x) S1 Q) := ⟨R.qOf rfl⟩
instance (es : Exs) {Q : Bool → Sto → Prop} : St (V (xT C (.lst es) ρ) S Q) (V (xE C (.lst es) ρ) S fun x S1 => V (pTru x) S1 Q) := ⟨R.tOf rfl⟩
instance (vs : List Nat) (t : Tg) (it : Ev.It) (c e : Ex) {Q : Bool → Sto → Prop} : St (V (xT C (.com vs t it c e) ρ) S Q) (V (xE C (.com vs t it c e) ρ) S fun x S1 => V (pTru x) S1 Q) := ⟨R.tOf rfl⟩
instance (x : Str) {Q : Bool → Sto → Prop} : St (V (xT C (.str x) ρ) S Q) (V (xE C (.str x) ρ) S fun x S1 => V (pTru x) S1 Q) := ⟨R.tOf rfl⟩
instance (x : Str) {Q : Bool × List Val → Sto → Prop} : St (V (xQ C (.str x) ρ) S Q) (V (xE C (.str x) ρ) S fun x S1 => V (pSeq x) S1 Q) := ⟨R.qOf rfl⟩
instance (es : Exs) {Q : Bool → Sto → Prop} : St (V (xT C (.tup es) ρ) S Q) (V (xE C (.tup es) ρ) S fun x S1 => V (pTru x) S1 Q) := ⟨R.tOf rfl⟩
instance (es : Exs) {Q : Bool × List Val → Sto → Prop} : St (V (xQ C (.tup es) ρ) S Q) (V (xE C (.tup es) ρ) S fun x S1 => V (pSeq x) S1 Q) := ⟨R.qOf rfl⟩
instance (a : Ex) {Q : Bool → Sto → Prop} : St (V (xT C (.neg a) ρ) S Q) (V (xE C (.neg a) ρ) S fun x S1 => V (pTru x) S1 Q) := ⟨R.tOf rfl⟩
instance (a : Ex) {Q : Bool × List Val → Sto → Prop} : St (V (xQ C (.neg a) ρ) S Q) (V (xE C (.neg a) ρ) S fun x S1 => V (pSeq x) S1 Q) := ⟨R.qOf rfl⟩
instance (a : Ex) {Q : Bool × List Val → Sto → Prop} : St (V (xQ C (.not a) ρ) S Q) (V (xE C (.not a) ρ) S fun x S1 => V (pSeq x) S1 Q) := ⟨R.qOf rfl⟩
instance (a b : Ex) {Q : Bool × List Val → Sto → Prop} : St (V (xQ C (.and a b) ρ) S Q) (V (xE C (.and a b) ρ) S fun x S1 => V (pSeq x) S1 Q) := ⟨R.qOf rfl⟩
instance (a b : Ex) {Q : Bool × List Val → Sto → Prop} : St (V (xQ C (.or a b) ρ) S Q) (V (xE C (.or a b) ρ) S fun x S1 => V (pSeq x) S1 Q) := ⟨R.qOf rfl⟩
instance (a b c : Ex) {Q : Bool × List Val → Sto → Prop} : St (V (xQ C (.ite a b c) ρ) S Q) (V (xE C (.ite a b c) ρ) S fun x S1 => V (pSeq x) S1 Q) := ⟨R.qOf rfl⟩
instance (a b : Ex) {Q : Bool × List Val → Sto → Prop} : St (V (xQ C (.ext a b) ρ) S Q) (V (xE C (.ext a b) ρ) S fun x S1 => V (pSeq x) S1 Q) := ⟨R.qOf rfl⟩
instance (a b : Ex) {Q : Bool → Sto → Prop} : St (V (xT C (.ext a b) ρ) S Q) (V (xE C (.ext a b) ρ) S fun x S1 => V (pTru x) S1 Q) := ⟨R.tOf rfl⟩
instance (a : Ex) {Q : Bool × List Val → Sto → Prop} : St (V (xQ C (.rev a) ρ) S Q) (V (xE C (.rev a) ρ) S fun x S1 => V (pSeq x) S1 Q) := ⟨R.qOf rfl⟩
instance (a : Ex) {Q : Bool → Sto → Prop} : St (V (xT C (.rev a) ρ) S Q) (V (xE C (.rev a) ρ) S fun x S1 => V (pTru x) S1 Q) := ⟨R.tOf rfl⟩
instance {P R : Prop} : St (if true = true then P else R) P := ⟨fun h => (if_pos rfl).mpr h⟩
instance {P R : Prop} : St (if false = true then P else R) R := ⟨fun h => (if_neg Bool.false_ne_true).mpr h⟩
end
end Ev

end

section
set_option exponentiation.threshold 5000
/-! P2: the feed, the draw. -/
namespace Ev
open PySem PyProof.Rows

/-- the feed at f: B more draws may come -/
structure Feed (f B : Nat) (S : Sto) : Prop where
  ex : ∃ (c : Nat) (cells : List Int) (a b t : Int), S[f]? = some (.lst [.loc c, .int a, .int b, .int t]) ∧ S[c]? = some (.lst (cells.map .int)) ∧ c < f ∧ 0 ≤ a ∧ 0 ≤ t ∧ t + B ≤ 1099511627776
theorem Feed.mono {f B B' : Nat} {S : Sto} (h : Feed f B S) (k : B' ≤ B) : Feed f B' S := by
  obtain ⟨c, cells, a, b, t, h1, h2, h3, h4, h5, h6⟩ := h
  exact ⟨c, cells, a, b, t, h1, h2, h3, h4, h5, by omega⟩
theorem Feed.grow {f B : Nat} {S S' : Sto} (h : Feed f B S) (g : Fr (fun _ => False) S S') : Feed f B S' := by
  obtain ⟨c, cells, a, b, t, h1, h2, h3, h4, h5, h6⟩ := h
  exact ⟨c, cells, a, b, t, g.get h1 id, g.get h2 id, h3, h4, h5, h6⟩
theorem Feed.far {f B g : Nat} {S S' : Sto} (h : Feed f B S) (k : Fr (fun i => i = g) S S') (hg : f < g) : Feed f B S' := by
  obtain ⟨c, cells, a, b, t, h1, h2, h3, h4, h5, h6⟩ := h
  exact ⟨c, cells, a, b, t, k.get h1 (fun (z : f = g) => by omega), k.get h2 (fun (z : c = g) => by omega), h3, h4, h5, h6⟩
abbrev At (f : Nat) : Nat → Prop := fun i => i = f

def bDraw : Sxs := (.cons (.augs (.var 0) (.int 3) .Add (.int 1)) (.cons (.ifs (.cmp .Gt (.idx (.var 0) (.int 2)) (.int 0)) (.cons (.set (.nam 2) (.bin .Mod (.idx (.var 0) (.int 2)) (.var 1))) (.cons (.sub (.var 0) (.int 2) (.bin .FloorDiv (.idx (.var 0) (.int 2)) (.var 1))) (.cons (.ret (.var 2)) .nil))) .nil) (.cons (.set (.nam 3) (.ite (.cmp .Eq (.idx (.var 0) (.int 0)) (.lst .nil)) (.int 7) (.idx (.idx (.var 0) (.int 0)) (.bin .Mod (.idx (.var 0) (.int 1)) (.bi "len" (.cons (.idx (.var 0) (.int 0)) .nil)))))) (.cons (.augs (.var 0) (.int 1) .Add (.int 1)) (.cons (.ifs (.and (.cmp .GtE (.var 3) (.bin .Pow (.int 10) (.int 18))) (.cmp .LtE (.idx (.var 0) (.int 1)) (.bi "len" (.cons (.idx (.var 0) (.int 0)) .nil)))) (.cons (.sub (.var 0) (.int 2) (.bin .FloorDiv (.var 3) (.var 1))) (.cons (.ret (.bin .Mod (.var 3) (.var 1))) .nil)) .nil) (.cons (.set (.nam 4) (.idx (.var 0) (.int 3))) (.cons (.set (.nam 5) (.bin .Mod (.bin .Add (.bin .Add (.bin .Mod (.var 3) (.int 2147483629)) (.bin .Mult (.bin .Mult (.int 69621) (.var 4)) (.var 4))) (.bin .Mult (.int 7) (.var 4))) (.int 2147483629))) (.cons (.set (.nam 5) (.bin .Mod (.bin .Add (.bin .Mult (.var 5) (.var 5)) (.bin .Mult (.int 48271) (.var 4))) (.int 2147483647))) (.cons (.set (.nam 5) (.bin .Mod (.bin .Add (.bin .Mult (.var 5) (.var 5)) (.bin .Mult (.int 16807) (.var 4))) (.int 2147483587))) (.cons (.ret (.bin .Mod (.bin .FloorDiv (.bin .Mod (.bin .Add (.bin .Mult (.var 5) (.var 5)) (.var 4)) (.int 2147483629)) (.int 131)) (.var 1))) .nil))))))))))
theorem rd_ints {X : Nat → Prop} {S : Sto} : ∀ (ns : List Int), RdL X S (ns.map .int) (ns.map .int)
  | [] => .nil
  | n :: ns => .cons (.int n) (rd_ints ns)
theorem lay_ints : ∀ (ns : List Int), PyData.canLayAll0 (ns.map .int) = true
  | [] => rfl
  | n :: ns => by simp [PyData.canLayAll0, PyData.canLay0, lay_ints ns]
theorem dep_ints : ∀ (ns : List Int), PyData.depthAll (ns.map .int) = 0
  | [] => rfl
  | n :: ns => by simp [PyData.depthAll, PyData.depth, dep_ints ns]
/-- a row of numbers == [] -/
theorem eq_nil {S : Sto} {c e : Nat} {ns : List Int} (h : S[c]? = some (.lst (ns.map .int))) (h2 : S[e]? = some (.lst [])) : eqVal S (.loc c) (.loc e) = some ns.isEmpty := by
  have r1 : Rd (fun _ => False) S (.loc c) (.list (ns.map .int)) := .lst h (fun z => z) (rd_ints ns)
  have r2 : Rd (fun _ => False) S (.loc e) (.list []) := .lst h2 (fun z => z) .nil
  have d1 := r1.dat (by simp [PyData.depth, dep_ints])
  have d2 := r2.dat (by simp [PyData.depth, PyData.depthAll])
  show eqDat (dat S (.loc c)) (dat S (.loc e)) = _
  rw [d1, d2]
  unfold eqDat
  have s1 : SeqAt.shaped (.list (ns.map .int)) = true := by
    unfold SeqAt.shaped
    simp [PyData.canLay0, lay_ints, PyData.depth, dep_ints]
  have s2 : SeqAt.shaped (.list []) = true := by decide
  simp only [s1, s2, Bool.and_self, if_true]
  cases ns <;> simp [PyData.eqv, PyData.eqvAll]
theorem draw_ok {C : Ctx} {f B n : Nat} {S : Sto} {many : Int} {Q : Val → Sto → Prop} (hf : Feed f (B + 1) S) (hm : 0 < many) (hm2 : many < 2 ^ 1000) (q : ∀ r S', 0 ≤ r → r < many → Feed f B S' → Fr (At f) S S' → Q (.int r) S') : V (xSs C bDraw (start 6 [.loc f, .int many])) S (ret Q) := by
  obtain ⟨c, cells, a, b, t, h1, h2, h3', h4, h5, h6⟩ := hf
  have h3 : c ≠ f := Nat.ne_of_lt h3'
  have hlog : many.natAbs.log2 < 9000 := by
    have e : ((many.natAbs : Nat) : Int) = many := Int.natAbs_of_nonneg (by omega)
    have : (many.natAbs : Int) < ((2 ^ 1000 : Nat) : Int) := by rw [e]; simpa using hm2
    have h3 : many.natAbs < 2 ^ 1000 := by exact_mod_cast this
    have := (Nat.log2_lt (by omega)).mpr h3
    omega
  have hlt : f < S.length := (List.getElem?_eq_some_iff.mp h1).1
  have modlt : ∀ x : Int, 0 ≤ x % many ∧ x % many < many := fun x => ⟨Int.emod_nonneg _ (by omega), Int.emod_lt_of_pos _ hm⟩
  (repeat (first | refine St.go ?_ | refine R.eVar rfl ?_ | refine ⟨_, rfl, ?_⟩ | refine R.sAug rfl ?_ | refine R.vSliT rfl rfl ?_ | refine R.vIsiNo rfl ?_ | refine R.vIsiBl rfl ?_ | refine R.vIsiIn rfl ?_ | refine R.vIsiSt rfl ?_ | refine R.vIsiTu rfl ?_ | refine R.ssCons ?_ | refine R.ssNil ?_ | refine R.w_iteT ?_ | refine R.w_iteF ?_))
  refine R.vGetL h1 rfl ?_
  (repeat (first | refine St.go ?_ | refine R.eVar rfl ?_ | refine ⟨_, rfl, ?_⟩ | refine R.sAug rfl ?_ | refine R.vSliT rfl rfl ?_ | refine R.vIsiNo rfl ?_ | refine R.vIsiBl rfl ?_ | refine R.vIsiIn rfl ?_ | refine R.vIsiSt rfl ?_ | refine R.vIsiTu rfl ?_ | refine R.ssCons ?_ | refine R.ssNil ?_ | refine R.w_iteT ?_ | refine R.w_iteF ?_))
  refine R.vSetL h1 rfl ?_
  let S1 := S.set f (.lst [.loc c, .int a, .int b, .int (t + 1)])
  have k1 : S1[f]? = some (.lst [.loc c, .int a, .int b, .int (t + 1)]) := List.getElem?_set_self hlt
  have k2 : S1[c]? = some (.lst (cells.map .int)) := (List.getElem?_set_ne (Ne.symm h3)).trans h2
  have fr1 : Fr (At f) S S1 := Fr.set rfl
  show aft C _ _ _ S1
  (repeat (first | refine St.go ?_ | refine R.eVar rfl ?_ | refine ⟨_, rfl, ?_⟩ | refine R.sAug rfl ?_ | refine R.vSliT rfl rfl ?_ | refine R.vIsiNo rfl ?_ | refine R.vIsiBl rfl ?_ | refine R.vIsiIn rfl ?_ | refine R.vIsiSt rfl ?_ | refine R.vIsiTu rfl ?_ | refine R.ssCons ?_ | refine R.ssNil ?_ | refine R.w_iteT ?_ | refine R.w_iteF ?_))
  refine R.vIdxL k1 rfl ?_
  (repeat (first | refine St.go ?_ | refine R.eVar rfl ?_ | refine ⟨_, rfl, ?_⟩ | refine R.sAug rfl ?_ | refine R.vSliT rfl rfl ?_ | refine R.vIsiNo rfl ?_ | refine R.vIsiBl rfl ?_ | refine R.vIsiIn rfl ?_ | refine R.vIsiSt rfl ?_ | refine R.vIsiTu rfl ?_ | refine R.ssCons ?_ | refine R.ssNil ?_ | refine R.w_iteT ?_ | refine R.w_iteF ?_))
  refine R.w_ite (fun hb => ?_) (fun hb => ?_)
  · have hb : 0 < b := of_decide_eq_true hb
    (repeat (first | refine St.go ?_ | refine R.eVar rfl ?_ | refine ⟨_, rfl, ?_⟩ | refine R.sAug rfl ?_ | refine R.vSliT rfl rfl ?_ | refine R.vIsiNo rfl ?_ | refine R.vIsiBl rfl ?_ | refine R.vIsiIn rfl ?_ | refine R.vIsiSt rfl ?_ | refine R.vIsiTu rfl ?_ | refine R.ssCons ?_ | refine R.ssNil ?_ | refine R.w_iteT ?_ | refine R.w_iteF ?_))
    refine R.vIdxL k1 rfl ?_
    (repeat (first | refine St.go ?_ | refine R.eVar rfl ?_ | refine ⟨_, rfl, ?_⟩ | refine R.sAug rfl ?_ | refine R.vSliT rfl rfl ?_ | refine R.vIsiNo rfl ?_ | refine R.vIsiBl rfl ?_ | refine R.vIsiIn rfl ?_ | refine R.vIsiSt rfl ?_ | refine R.vIsiTu rfl ?_ | refine R.ssCons ?_ | refine R.ssNil ?_ | refine R.w_iteT ?_ | refine R.w_iteF ?_))
    refine R.vMod hm ?_
    (repeat (first | refine St.go ?_ | refine R.eVar rfl ?_ | refine ⟨_, rfl, ?_⟩ | refine R.sAug rfl ?_ | refine R.vSliT rfl rfl ?_ | refine R.vIsiNo rfl ?_ | refine R.vIsiBl rfl ?_ | refine R.vIsiIn rfl ?_ | refine R.vIsiSt rfl ?_ | refine R.vIsiTu rfl ?_ | refine R.ssCons ?_ | refine R.ssNil ?_ | refine R.w_iteT ?_ | refine R.w_iteF ?_))
    refine R.vIdxL k1 rfl ?_
    (repeat (first | refine St.go ?_ | refine R.eVar rfl ?_ | refine ⟨_, rfl, ?_⟩ | refine R.sAug rfl ?_ | refine R.vSliT rfl rfl ?_ | refine R.vIsiNo rfl ?_ | refine R.vIsiBl rfl ?_ | refine R.vIsiIn rfl ?_ | refine R.vIsiSt rfl ?_ | refine R.vIsiTu rfl ?_ | refine R.ssCons ?_ | refine R.ssNil ?_ | refine R.w_iteT ?_ | refine R.w_iteF ?_))
    refine R.vDiv hm hlog ?_
    (repeat (first | refine St.go ?_ | refine R.eVar rfl ?_ | refine ⟨_, rfl, ?_⟩ | refine R.sAug rfl ?_ | refine R.vSliT rfl rfl ?_ | refine R.vIsiNo rfl ?_ | refine R.vIsiBl rfl ?_ | refine R.vIsiIn rfl ?_ | refine R.vIsiSt rfl ?_ | refine R.vIsiTu rfl ?_ | refine R.ssCons ?_ | refine R.ssNil ?_ | refine R.w_iteT ?_ | refine R.w_iteF ?_))
    refine R.vSetL k1 rfl ?_
    (repeat (first | refine St.go ?_ | refine R.eVar rfl ?_ | refine ⟨_, rfl, ?_⟩ | refine R.sAug rfl ?_ | refine R.vSliT rfl rfl ?_ | refine R.vIsiNo rfl ?_ | refine R.vIsiBl rfl ?_ | refine R.vIsiIn rfl ?_ | refine R.vIsiSt rfl ?_ | refine R.vIsiTu rfl ?_ | refine R.ssCons ?_ | refine R.ssNil ?_ | refine R.w_iteT ?_ | refine R.w_iteF ?_))
    refine q _ _ (modlt b).1 (modlt b).2 ⟨c, cells, a, b / many, t + 1, ?_, ?_, h3', h4, by omega, by omega⟩ (fr1.trans (Fr.set rfl))
    · exact List.getElem?_set_self (by simpa [S1] using hlt)
    · exact (List.getElem?_set_ne (Ne.symm h3)).trans k2
  · (repeat (first | refine St.go ?_ | refine R.eVar rfl ?_ | refine ⟨_, rfl, ?_⟩ | refine R.sAug rfl ?_ | refine R.vSliT rfl rfl ?_ | refine R.vIsiNo rfl ?_ | refine R.vIsiBl rfl ?_ | refine R.vIsiIn rfl ?_ | refine R.vIsiSt rfl ?_ | refine R.vIsiTu rfl ?_ | refine R.ssCons ?_ | refine R.ssNil ?_ | refine R.w_iteT ?_ | refine R.w_iteF ?_))
    refine R.vIdxL k1 rfl ?_
    (repeat (first | refine St.go ?_ | refine R.eVar rfl ?_ | refine ⟨_, rfl, ?_⟩ | refine R.sAug rfl ?_ | refine R.vSliT rfl rfl ?_ | refine R.vIsiNo rfl ?_ | refine R.vIsiBl rfl ?_ | refine R.vIsiIn rfl ?_ | refine R.vIsiSt rfl ?_ | refine R.vIsiTu rfl ?_ | refine R.ssCons ?_ | refine R.ssNil ?_ | refine R.w_iteT ?_ | refine R.w_iteF ?_))
    have k3 : (S1 ++ [.lst []])[f]? = some (.lst [.loc c, .int a, .int b, .int (t + 1)]) := Fr.alloc.get (X := fun _ => False) k1 id
    have k4 : (S1 ++ [.lst []])[c]? = some (.lst (cells.map .int)) := Fr.alloc.get (X := fun _ => False) k2 id
    have k5 : (S1 ++ [Ob.lst []])[S1.length]? = some (.lst []) := by simp
    refine R.w_ok (show pCmp .Eq (.loc c) (.loc S1.length) (S1 ++ [Ob.lst []]) = .ok (.bl cells.isEmpty) (S1 ++ [Ob.lst []]) from ?_) ?_
    · unfold pCmp; show (match eqVal (S1 ++ [Ob.lst []]) (.loc c) (.loc S1.length) with | some c => Out.ok (Val.bl c) (S1 ++ [Ob.lst []]) | none => .bad) = .ok (.bl cells.isEmpty) (S1 ++ [Ob.lst []]); rw [eq_nil k4 k5]
    have fr2 : Fr (At f) S (S1 ++ [.lst []]) := fr1.trans Fr.alloc
    generalize S1 ++ [Ob.lst []] = S2 at *
    (repeat (first | refine St.go ?_ | refine R.eVar rfl ?_ | refine ⟨_, rfl, ?_⟩ | refine R.sAug rfl ?_ | refine R.vSliT rfl rfl ?_ | refine R.vIsiNo rfl ?_ | refine R.vIsiBl rfl ?_ | refine R.vIsiIn rfl ?_ | refine R.vIsiSt rfl ?_ | refine R.vIsiTu rfl ?_ | refine R.ssCons ?_ | refine R.ssNil ?_ | refine R.w_iteT ?_ | refine R.w_iteF ?_))
    refine R.w_mono (Q := fun v S' => S' = S2 ∧ ∃ i : Int, v = .int i) ?_ ?_
    · refine R.w_ite (fun hc => ?_) (fun hc => ?_)
      · (repeat (first | refine St.go ?_ | refine R.eVar rfl ?_ | refine ⟨_, rfl, ?_⟩ | refine R.sAug rfl ?_ | refine R.vSliT rfl rfl ?_ | refine R.vIsiNo rfl ?_ | refine R.vIsiBl rfl ?_ | refine R.vIsiIn rfl ?_ | refine R.vIsiSt rfl ?_ | refine R.vIsiTu rfl ?_ | refine R.ssCons ?_ | refine R.ssNil ?_ | refine R.w_iteT ?_ | refine R.w_iteF ?_))
        exact ⟨rfl, _, rfl⟩
      · (repeat (first | refine St.go ?_ | refine R.eVar rfl ?_ | refine ⟨_, rfl, ?_⟩ | refine R.sAug rfl ?_ | refine R.vSliT rfl rfl ?_ | refine R.vIsiNo rfl ?_ | refine R.vIsiBl rfl ?_ | refine R.vIsiIn rfl ?_ | refine R.vIsiSt rfl ?_ | refine R.vIsiTu rfl ?_ | refine R.ssCons ?_ | refine R.ssNil ?_ | refine R.w_iteT ?_ | refine R.w_iteF ?_))
        refine R.vIdxL k3 rfl ?_
        (repeat (first | refine St.go ?_ | refine R.eVar rfl ?_ | refine ⟨_, rfl, ?_⟩ | refine R.sAug rfl ?_ | refine R.vSliT rfl rfl ?_ | refine R.vIsiNo rfl ?_ | refine R.vIsiBl rfl ?_ | refine R.vIsiIn rfl ?_ | refine R.vIsiSt rfl ?_ | refine R.vIsiTu rfl ?_ | refine R.ssCons ?_ | refine R.ssNil ?_ | refine R.w_iteT ?_ | refine R.w_iteF ?_))
        refine R.vIdxL k3 rfl ?_
        (repeat (first | refine St.go ?_ | refine R.eVar rfl ?_ | refine ⟨_, rfl, ?_⟩ | refine R.sAug rfl ?_ | refine R.vSliT rfl rfl ?_ | refine R.vIsiNo rfl ?_ | refine R.vIsiBl rfl ?_ | refine R.vIsiIn rfl ?_ | refine R.vIsiSt rfl ?_ | refine R.vIsiTu rfl ?_ | refine R.ssCons ?_ | refine R.ssNil ?_ | refine R.w_iteT ?_ | refine R.w_iteF ?_))
        refine R.vIdxL k3 rfl ?_
        (repeat (first | refine St.go ?_ | refine R.eVar rfl ?_ | refine ⟨_, rfl, ?_⟩ | refine R.sAug rfl ?_ | refine R.vSliT rfl rfl ?_ | refine R.vIsiNo rfl ?_ | refine R.vIsiBl rfl ?_ | refine R.vIsiIn rfl ?_ | refine R.vIsiSt rfl ?_ | refine R.vIsiTu rfl ?_ | refine R.ssCons ?_ | refine R.ssNil ?_ | refine R.w_iteT ?_ | refine R.w_iteF ?_))
        refine R.vLenL k4 ?_
        have hp : (0 : Int) < (cells.map Val.int).length := by
          cases cells with
          | nil => cases hc
          | cons x xs => simp
        refine R.vMod hp ?_
        obtain ⟨x, g1, g2⟩ := atI_in (xs := cells.map Val.int) (k := a % ((cells.map Val.int).length : Nat)) (Int.emod_nonneg _ (by omega)) (Int.emod_lt_of_pos _ hp)
        refine R.vIdxL k4 g1 ⟨rfl, ?_⟩
        rw [List.getElem?_map] at g2
        cases g3 : cells[(a % ((cells.map Val.int).length : Nat)).toNat]? with
        | none => rw [g3] at g2; cases g2
        | some y => rw [g3] at g2; cases g2; exact ⟨y, rfl⟩
    · rintro v S' ⟨rfl, cell, rfl⟩
      (repeat (first | refine St.go ?_ | refine R.eVar rfl ?_ | refine ⟨_, rfl, ?_⟩ | refine R.sAug rfl ?_ | refine R.vSliT rfl rfl ?_ | refine R.vIsiNo rfl ?_ | refine R.vIsiBl rfl ?_ | refine R.vIsiIn rfl ?_ | refine R.vIsiSt rfl ?_ | refine R.vIsiTu rfl ?_ | refine R.ssCons ?_ | refine R.ssNil ?_ | refine R.w_iteT ?_ | refine R.w_iteF ?_))
      refine R.vGetL k3 rfl ?_
      (repeat (first | refine St.go ?_ | refine R.eVar rfl ?_ | refine ⟨_, rfl, ?_⟩ | refine R.sAug rfl ?_ | refine R.vSliT rfl rfl ?_ | refine R.vIsiNo rfl ?_ | refine R.vIsiBl rfl ?_ | refine R.vIsiIn rfl ?_ | refine R.vIsiSt rfl ?_ | refine R.vIsiTu rfl ?_ | refine R.ssCons ?_ | refine R.ssNil ?_ | refine R.w_iteT ?_ | refine R.w_iteF ?_))
      refine R.vSetL k3 rfl ?_
      have hlt2 : f < S'.length := (List.getElem?_eq_some_iff.mp k3).1
      let S3 := S'.set f (.lst [.loc c, .int (a + 1), .int b, .int (t + 1)])
      have j1 : S3[f]? = some (.lst [.loc c, .int (a + 1), .int b, .int (t + 1)]) := List.getElem?_set_self hlt2
      have j2 : S3[c]? = some (.lst (cells.map .int)) := (List.getElem?_set_ne (Ne.symm h3)).trans k4
      have fr3 : Fr (At f) S S3 := fr2.trans (Fr.set rfl)
      have fd : Feed f B S3 := ⟨c, cells, a + 1, b, t + 1, j1, j2, h3', by omega, by omega, by omega⟩
      show aft C _ _ _ S3
      (repeat (first | refine St.go ?_ | refine R.eVar rfl ?_ | refine ⟨_, rfl, ?_⟩ | refine R.sAug rfl ?_ | refine R.vSliT rfl rfl ?_ | refine R.vIsiNo rfl ?_ | refine R.vIsiBl rfl ?_ | refine R.vIsiIn rfl ?_ | refine R.vIsiSt rfl ?_ | refine R.vIsiTu rfl ?_ | refine R.ssCons ?_ | refine R.ssNil ?_ | refine R.w_iteT ?_ | refine R.w_iteF ?_))
      refine R.vPow rfl ?_
      (repeat (first | refine St.go ?_ | refine R.eVar rfl ?_ | refine ⟨_, rfl, ?_⟩ | refine R.sAug rfl ?_ | refine R.vSliT rfl rfl ?_ | refine R.vIsiNo rfl ?_ | refine R.vIsiBl rfl ?_ | refine R.vIsiIn rfl ?_ | refine R.vIsiSt rfl ?_ | refine R.vIsiTu rfl ?_ | refine R.ssCons ?_ | refine R.ssNil ?_ | refine R.w_iteT ?_ | refine R.w_iteF ?_))
      refine R.w_mono (Q := fun _ S' => S' = S3) ?_ ?_
      · refine R.w_ite (fun hc => ?_) (fun hc => ?_)
        · (repeat (first | refine St.go ?_ | refine R.eVar rfl ?_ | refine ⟨_, rfl, ?_⟩ | refine R.sAug rfl ?_ | refine R.vSliT rfl rfl ?_ | refine R.vIsiNo rfl ?_ | refine R.vIsiBl rfl ?_ | refine R.vIsiIn rfl ?_ | refine R.vIsiSt rfl ?_ | refine R.vIsiTu rfl ?_ | refine R.ssCons ?_ | refine R.ssNil ?_ | refine R.w_iteT ?_ | refine R.w_iteF ?_))
          refine R.vIdxL j1 rfl ?_
          (repeat (first | refine St.go ?_ | refine R.eVar rfl ?_ | refine ⟨_, rfl, ?_⟩ | refine R.sAug rfl ?_ | refine R.vSliT rfl rfl ?_ | refine R.vIsiNo rfl ?_ | refine R.vIsiBl rfl ?_ | refine R.vIsiIn rfl ?_ | refine R.vIsiSt rfl ?_ | refine R.vIsiTu rfl ?_ | refine R.ssCons ?_ | refine R.ssNil ?_ | refine R.w_iteT ?_ | refine R.w_iteF ?_))
          refine R.vIdxL j1 rfl ?_
          (repeat (first | refine St.go ?_ | refine R.eVar rfl ?_ | refine ⟨_, rfl, ?_⟩ | refine R.sAug rfl ?_ | refine R.vSliT rfl rfl ?_ | refine R.vIsiNo rfl ?_ | refine R.vIsiBl rfl ?_ | refine R.vIsiIn rfl ?_ | refine R.vIsiSt rfl ?_ | refine R.vIsiTu rfl ?_ | refine R.ssCons ?_ | refine R.ssNil ?_ | refine R.w_iteT ?_ | refine R.w_iteF ?_))
          refine R.vLenL j2 ?_
          (repeat (first | refine St.go ?_ | refine R.eVar rfl ?_ | refine ⟨_, rfl, ?_⟩ | refine R.sAug rfl ?_ | refine R.vSliT rfl rfl ?_ | refine R.vIsiNo rfl ?_ | refine R.vIsiBl rfl ?_ | refine R.vIsiIn rfl ?_ | refine R.vIsiSt rfl ?_ | refine R.vIsiTu rfl ?_ | refine R.ssCons ?_ | refine R.ssNil ?_ | refine R.w_iteT ?_ | refine R.w_iteF ?_))
          rfl
        · (repeat (first | refine St.go ?_ | refine R.eVar rfl ?_ | refine ⟨_, rfl, ?_⟩ | refine R.sAug rfl ?_ | refine R.vSliT rfl rfl ?_ | refine R.vIsiNo rfl ?_ | refine R.vIsiBl rfl ?_ | refine R.vIsiIn rfl ?_ | refine R.vIsiSt rfl ?_ | refine R.vIsiTu rfl ?_ | refine R.ssCons ?_ | refine R.ssNil ?_ | refine R.w_iteT ?_ | refine R.w_iteF ?_))
          rfl
      · rintro tb S' rfl
        refine R.w_ite (fun hc => ?_) (fun hc => ?_)
        · (repeat (first | refine St.go ?_ | refine R.eVar rfl ?_ | refine ⟨_, rfl, ?_⟩ | refine R.sAug rfl ?_ | refine R.vSliT rfl rfl ?_ | refine R.vIsiNo rfl ?_ | refine R.vIsiBl rfl ?_ | refine R.vIsiIn rfl ?_ | refine R.vIsiSt rfl ?_ | refine R.vIsiTu rfl ?_ | refine R.ssCons ?_ | refine R.ssNil ?_ | refine R.w_iteT ?_ | refine R.w_iteF ?_))
          refine R.vDiv hm hlog ?_
          (repeat (first | refine St.go ?_ | refine R.eVar rfl ?_ | refine ⟨_, rfl, ?_⟩ | refine R.sAug rfl ?_ | refine R.vSliT rfl rfl ?_ | refine R.vIsiNo rfl ?_ | refine R.vIsiBl rfl ?_ | refine R.vIsiIn rfl ?_ | refine R.vIsiSt rfl ?_ | refine R.vIsiTu rfl ?_ | refine R.ssCons ?_ | refine R.ssNil ?_ | refine R.w_iteT ?_ | refine R.w_iteF ?_))
          refine R.vSetL j1 rfl ?_
          (repeat (first | refine St.go ?_ | refine R.eVar rfl ?_ | refine ⟨_, rfl, ?_⟩ | refine R.sAug rfl ?_ | refine R.vSliT rfl rfl ?_ | refine R.vIsiNo rfl ?_ | refine R.vIsiBl rfl ?_ | refine R.vIsiIn rfl ?_ | refine R.vIsiSt rfl ?_ | refine R.vIsiTu rfl ?_ | refine R.ssCons ?_ | refine R.ssNil ?_ | refine R.w_iteT ?_ | refine R.w_iteF ?_))
          refine R.vMod hm ?_
          (repeat (first | refine St.go ?_ | refine R.eVar rfl ?_ | refine ⟨_, rfl, ?_⟩ | refine R.sAug rfl ?_ | refine R.vSliT rfl rfl ?_ | refine R.vIsiNo rfl ?_ | refine R.vIsiBl rfl ?_ | refine R.vIsiIn rfl ?_ | refine R.vIsiSt rfl ?_ | refine R.vIsiTu rfl ?_ | refine R.ssCons ?_ | refine R.ssNil ?_ | refine R.w_iteT ?_ | refine R.w_iteF ?_))
          refine q _ _ (modlt cell).1 (modlt cell).2 ⟨c, cells, a + 1, cell / many, t + 1, ?_, ?_, h3', by omega, by omega, by omega⟩ (fr3.trans (Fr.set rfl))
          · exact List.getElem?_set_self (by simpa [S3] using hlt2)
          · exact (List.getElem?_set_ne (Ne.symm h3)).trans j2
        · (repeat (first | refine St.go ?_ | refine R.eVar rfl ?_ | refine ⟨_, rfl, ?_⟩ | refine R.sAug rfl ?_ | refine R.vSliT rfl rfl ?_ | refine R.vIsiNo rfl ?_ | refine R.vIsiBl rfl ?_ | refine R.vIsiIn rfl ?_ | refine R.vIsiSt rfl ?_ | refine R.vIsiTu rfl ?_ | refine R.ssCons ?_ | refine R.ssNil ?_ | refine R.w_iteT ?_ | refine R.w_iteF ?_))
          refine R.vIdxL j1 rfl ?_
          have tb : ∀ x : Int, 0 ≤ x → x < 2147483648 → x.natAbs < 2 ^ 4000 := fun x h1 h2 => small_of (k := 31) h1 (by simpa using h2) (by decide)
          have tt : (t + 1).natAbs < 2 ^ 4000 := small_of (k := 41) (by omega) (show t + 1 < 2199023255552 by omega) (by decide)
          have t2 : (69621 * (t + 1)).natAbs < 2 ^ 4000 := small_of (k := 80) (by omega) (show 69621 * (t + 1) < 1208925819614629174706176 by omega) (by decide)
          have md : ∀ (x : Int) (m : Int), 0 < m → m < 2147483648 → (x % m).natAbs < 2 ^ 4000 := fun x m h1 h2 => tb _ (Int.emod_nonneg _ (by omega)) (by have := Int.emod_lt_of_pos x h1; omega)
          (repeat (first | refine St.go ?_ | refine R.eVar rfl ?_ | refine ⟨_, rfl, ?_⟩ | refine R.sAug rfl ?_ | refine R.vSliT rfl rfl ?_ | refine R.vIsiNo rfl ?_ | refine R.vIsiBl rfl ?_ | refine R.vIsiIn rfl ?_ | refine R.vIsiSt rfl ?_ | refine R.vIsiTu rfl ?_ | refine R.ssCons ?_ | refine R.ssNil ?_ | refine R.w_iteT ?_ | refine R.w_iteF ?_))
          refine R.vMod (by decide) ?_
          (repeat (first | refine St.go ?_ | refine R.eVar rfl ?_ | refine ⟨_, rfl, ?_⟩ | refine R.sAug rfl ?_ | refine R.vSliT rfl rfl ?_ | refine R.vIsiNo rfl ?_ | refine R.vIsiBl rfl ?_ | refine R.vIsiIn rfl ?_ | refine R.vIsiSt rfl ?_ | refine R.vIsiTu rfl ?_ | refine R.ssCons ?_ | refine R.ssNil ?_ | refine R.w_iteT ?_ | refine R.w_iteF ?_))
          refine R.vMul (mulOk_of (by decide) tt) ?_
          (repeat (first | refine St.go ?_ | refine R.eVar rfl ?_ | refine ⟨_, rfl, ?_⟩ | refine R.sAug rfl ?_ | refine R.vSliT rfl rfl ?_ | refine R.vIsiNo rfl ?_ | refine R.vIsiBl rfl ?_ | refine R.vIsiIn rfl ?_ | refine R.vIsiSt rfl ?_ | refine R.vIsiTu rfl ?_ | refine R.ssCons ?_ | refine R.ssNil ?_ | refine R.w_iteT ?_ | refine R.w_iteF ?_))
          refine R.vMul (mulOk_of t2 tt) ?_
          (repeat (first | refine St.go ?_ | refine R.eVar rfl ?_ | refine ⟨_, rfl, ?_⟩ | refine R.sAug rfl ?_ | refine R.vSliT rfl rfl ?_ | refine R.vIsiNo rfl ?_ | refine R.vIsiBl rfl ?_ | refine R.vIsiIn rfl ?_ | refine R.vIsiSt rfl ?_ | refine R.vIsiTu rfl ?_ | refine R.ssCons ?_ | refine R.ssNil ?_ | refine R.w_iteT ?_ | refine R.w_iteF ?_))
          refine R.vMul (mulOk_of (by decide) tt) ?_
          (repeat (first | refine St.go ?_ | refine R.eVar rfl ?_ | refine ⟨_, rfl, ?_⟩ | refine R.sAug rfl ?_ | refine R.vSliT rfl rfl ?_ | refine R.vIsiNo rfl ?_ | refine R.vIsiBl rfl ?_ | refine R.vIsiIn rfl ?_ | refine R.vIsiSt rfl ?_ | refine R.vIsiTu rfl ?_ | refine R.ssCons ?_ | refine R.ssNil ?_ | refine R.w_iteT ?_ | refine R.w_iteF ?_))
          refine R.vMod (by decide) ?_
          (repeat (first | refine St.go ?_ | refine R.eVar rfl ?_ | refine ⟨_, rfl, ?_⟩ | refine R.sAug rfl ?_ | refine R.vSliT rfl rfl ?_ | refine R.vIsiNo rfl ?_ | refine R.vIsiBl rfl ?_ | refine R.vIsiIn rfl ?_ | refine R.vIsiSt rfl ?_ | refine R.vIsiTu rfl ?_ | refine R.ssCons ?_ | refine R.ssNil ?_ | refine R.w_iteT ?_ | refine R.w_iteF ?_))
          refine R.vMul (mulOk_of (md _ _ (by decide) (by decide)) (md _ _ (by decide) (by decide))) ?_
          (repeat (first | refine St.go ?_ | refine R.eVar rfl ?_ | refine ⟨_, rfl, ?_⟩ | refine R.sAug rfl ?_ | refine R.vSliT rfl rfl ?_ | refine R.vIsiNo rfl ?_ | refine R.vIsiBl rfl ?_ | refine R.vIsiIn rfl ?_ | refine R.vIsiSt rfl ?_ | refine R.vIsiTu rfl ?_ | refine R.ssCons ?_ | refine R.ssNil ?_ | refine R.w_iteT ?_ | refine R.w_iteF ?_))
          refine R.vMul (mulOk_of (by decide) tt) ?_
          (repeat (first | refine St.go ?_ | refine R.eVar rfl ?_ | refine ⟨_, rfl, ?_⟩ | refine R.sAug rfl ?_ | refine R.vSliT rfl rfl ?_ | refine R.vIsiNo rfl ?_ | refine R.vIsiBl rfl ?_ | refine R.vIsiIn rfl ?_ | refine R.vIsiSt rfl ?_ | refine R.vIsiTu rfl ?_ | refine R.ssCons ?_ | refine R.ssNil ?_ | refine R.w_iteT ?_ | refine R.w_iteF ?_))
          refine R.vMod (by decide) ?_
          (repeat (first | refine St.go ?_ | refine R.eVar rfl ?_ | refine ⟨_, rfl, ?_⟩ | refine R.sAug rfl ?_ | refine R.vSliT rfl rfl ?_ | refine R.vIsiNo rfl ?_ | refine R.vIsiBl rfl ?_ | refine R.vIsiIn rfl ?_ | refine R.vIsiSt rfl ?_ | refine R.vIsiTu rfl ?_ | refine R.ssCons ?_ | refine R.ssNil ?_ | refine R.w_iteT ?_ | refine R.w_iteF ?_))
          refine R.vMul (mulOk_of (md _ _ (by decide) (by decide)) (md _ _ (by decide) (by decide))) ?_
          (repeat (first | refine St.go ?_ | refine R.eVar rfl ?_ | refine ⟨_, rfl, ?_⟩ | refine R.sAug rfl ?_ | refine R.vSliT rfl rfl ?_ | refine R.vIsiNo rfl ?_ | refine R.vIsiBl rfl ?_ | refine R.vIsiIn rfl ?_ | refine R.vIsiSt rfl ?_ | refine R.vIsiTu rfl ?_ | refine R.ssCons ?_ | refine R.ssNil ?_ | refine R.w_iteT ?_ | refine R.w_iteF ?_))
          refine R.vMul (mulOk_of (by decide) tt) ?_
          (repeat (first | refine St.go ?_ | refine R.eVar rfl ?_ | refine ⟨_, rfl, ?_⟩ | refine R.sAug rfl ?_ | refine R.vSliT rfl rfl ?_ | refine R.vIsiNo rfl ?_ | refine R.vIsiBl rfl ?_ | refine R.vIsiIn rfl ?_ | refine R.vIsiSt rfl ?_ | refine R.vIsiTu rfl ?_ | refine R.ssCons ?_ | refine R.ssNil ?_ | refine R.w_iteT ?_ | refine R.w_iteF ?_))
          refine R.vMod (by decide) ?_
          (repeat (first | refine St.go ?_ | refine R.eVar rfl ?_ | refine ⟨_, rfl, ?_⟩ | refine R.sAug rfl ?_ | refine R.vSliT rfl rfl ?_ | refine R.vIsiNo rfl ?_ | refine R.vIsiBl rfl ?_ | refine R.vIsiIn rfl ?_ | refine R.vIsiSt rfl ?_ | refine R.vIsiTu rfl ?_ | refine R.ssCons ?_ | refine R.ssNil ?_ | refine R.w_iteT ?_ | refine R.w_iteF ?_))
          refine R.vMul (mulOk_of (md _ _ (by decide) (by decide)) (md _ _ (by decide) (by decide))) ?_
          (repeat (first | refine St.go ?_ | refine R.eVar rfl ?_ | refine ⟨_, rfl, ?_⟩ | refine R.sAug rfl ?_ | refine R.vSliT rfl rfl ?_ | refine R.vIsiNo rfl ?_ | refine R.vIsiBl rfl ?_ | refine R.vIsiIn rfl ?_ | refine R.vIsiSt rfl ?_ | refine R.vIsiTu rfl ?_ | refine R.ssCons ?_ | refine R.ssNil ?_ | refine R.w_iteT ?_ | refine R.w_iteF ?_))
          refine R.vMod (by decide) ?_
          (repeat (first | refine St.go ?_ | refine R.eVar rfl ?_ | refine ⟨_, rfl, ?_⟩ | refine R.sAug rfl ?_ | refine R.vSliT rfl rfl ?_ | refine R.vIsiNo rfl ?_ | refine R.vIsiBl rfl ?_ | refine R.vIsiIn rfl ?_ | refine R.vIsiSt rfl ?_ | refine R.vIsiTu rfl ?_ | refine R.ssCons ?_ | refine R.ssNil ?_ | refine R.w_iteT ?_ | refine R.w_iteF ?_))
          refine R.vDiv (by decide) (by decide) ?_
          (repeat (first | refine St.go ?_ | refine R.eVar rfl ?_ | refine ⟨_, rfl, ?_⟩ | refine R.sAug rfl ?_ | refine R.vSliT rfl rfl ?_ | refine R.vIsiNo rfl ?_ | refine R.vIsiBl rfl ?_ | refine R.vIsiIn rfl ?_ | refine R.vIsiSt rfl ?_ | refine R.vIsiTu rfl ?_ | refine R.ssCons ?_ | refine R.ssNil ?_ | refine R.w_iteT ?_ | refine R.w_iteF ?_))
          refine R.vMod hm ?_
          (repeat (first | refine St.go ?_ | refine R.eVar rfl ?_ | refine ⟨_, rfl, ?_⟩ | refine R.sAug rfl ?_ | refine R.vSliT rfl rfl ?_ | refine R.vIsiNo rfl ?_ | refine R.vIsiBl rfl ?_ | refine R.vIsiIn rfl ?_ | refine R.vIsiSt rfl ?_ | refine R.vIsiTu rfl ?_ | refine R.ssCons ?_ | refine R.ssNil ?_ | refine R.w_iteT ?_ | refine R.w_iteF ?_))
          exact q _ _ (modlt _).1 (modlt _).2 fd fr3
end Ev

end

section
/-! GB: the bodies that many laws share (printed by mkB.py). -/
namespace Ev
open PySem
/-- holds: 2 given, 2 names: pairs sentence -/
def bHolds : Sxs := (.cons (.ret (.call "is_so" (.cons (.sq "dict" (.var 0)) (.cons (.var 1) .nil)))) .nil)
/-- is_so: 2 given, 4 names: known sentence word one -/
def bSo : Sxs := (.cons (.set (.nam 2) (.idx (.var 1) (.int 0))) (.cons (.ifs (.cmp .Eq (.var 2) (.str "given")) (.cons (.ret (.cmp .In (.idx (.var 1) (.int 1)) (.var 0))) .nil) .nil) (.cons (.ifs (.cmp .Eq (.var 2) (.str "is")) (.cons (.ret (.and (.cmp .In (.idx (.var 1) (.int 1)) (.var 0)) (.cmp .Eq (.idx (.var 0) (.idx (.var 1) (.int 1))) (.idx (.var 1) (.int 2))))) .nil) .nil) (.cons (.ifs (.cmp .Eq (.var 2) (.str "has")) (.cons (.ret (.and (.cmp .In (.idx (.var 1) (.int 1)) (.var 0)) (.cmp .In (.idx (.var 1) (.int 2)) (.idx (.var 0) (.idx (.var 1) (.int 1)))))) .nil) .nil) (.cons (.ifs (.cmp .Eq (.var 2) (.str "least")) (.cons (.ret (.cmp .GtE (.call "comes_to" (.cons (.var 0) (.cons (.idx (.var 1) (.int 1)) .nil))) (.idx (.var 1) (.int 2)))) .nil) .nil) (.cons (.ifs (.cmp .Eq (.var 2) (.str "not")) (.cons (.ret (.not (.call "is_so" (.cons (.var 0) (.cons (.idx (.var 1) (.int 1)) .nil))))) .nil) .nil) (.cons (.ifs (.cmp .Eq (.var 2) (.str "all")) (.cons (.ret (.sq "all" (.com [3] (.nam 3) (.seq (.idx (.var 1) (.int 1))) (.bl true) (.call "is_so" (.cons (.var 0) (.cons (.var 3) .nil)))))) .nil) .nil) (.cons (.ret (.sq "any" (.com [3] (.nam 3) (.seq (.idx (.var 1) (.int 1))) (.bl true) (.call "is_so" (.cons (.var 0) (.cons (.var 3) .nil)))))) .nil))))))))
/-- comes_to: 2 given, 3 names: known term part -/
def bComes : Sxs := (.cons (.ret (.bin .Add (.idx (.var 1) (.int 0)) (.sq "sum" (.com [2] (.nam 2) (.seq (.idx (.var 1) (.int 1))) (.bl true) (.call "part_of" (.cons (.var 0) (.cons (.var 2) .nil))))))) .nil)
/-- part_of: 2 given, 8 names: known part word thing weight answer places place -/
def bPart : Sxs := (.cons (.set (.tup (.cons (.nam 2) (.cons (.nam 3) (.cons (.nam 4) .nil)))) (.var 1)) (.cons (.ifs (.cmp .Eq (.var 2) (.str "where")) (.cons (.ret (.ite (.call "is_so" (.cons (.var 0) (.cons (.var 3) .nil))) (.var 4) (.int 0))) .nil) .nil) (.cons (.ifs (.cmp .NotIn (.var 3) (.var 0)) (.cons (.ret (.int 0)) .nil) .nil) (.cons (.set (.nam 5) (.idx (.var 0) (.var 3))) (.cons (.ifs (.cmp .Eq (.var 2) (.str "times")) (.cons (.ret (.bin .Mult (.var 4) (.var 5))) .nil) .nil) (.cons (.set (.nam 6) (.ite (.bi "isinstance" (.cons (.var 5) (.cons (.ty "tuple") .nil))) (.var 5) (.tup (.cons (.var 5) .nil)))) (.cons (.ret (.sq "sum" (.com [7] (.nam 7) (.seq (.var 6)) (.cmp .Lt (.var 7) (.bi "len" (.cons (.var 4) .nil))) (.idx (.var 4) (.var 7))))) .nil)))))))
/-- _law_feed: 1 given, 1 names: script -/
def bFeed : Sxs := (.cons (.ret (.lst (.cons (.sli (.var 0) .non (.int 63)) (.cons (.int 0) (.cons (.int 0) (.cons (.int 0) .nil)))))) .nil)
/-- _law_name: 2 given, 7 names: feed_here found signs way name_here k own -/
def bName : Sxs := (.cons (.set (.nam 2) (.str "abcdefghijklmnopqrstuvwxyz0123456789")) (.cons (.set (.nam 3) (.call "_law_draw" (.cons (.var 0) (.cons (.int 5) .nil)))) (.cons (.set (.nam 4) (.idx (.var 2) (.call "_law_draw" (.cons (.var 0) (.cons (.int 26) .nil))))) (.cons (.ifs (.or (.cmp .Gt (.var 3) (.int 1)) (.cmp .Eq (.var 1) (.lst .nil))) (.cons (.for_ (.nam 5) (.rng1 (.call "_law_draw" (.cons (.var 0) (.cons (.int 8) .nil)))) (.cons (.set (.nam 4) (.bin .Add (.var 4) (.idx (.var 2) (.call "_law_draw" (.cons (.var 0) (.cons (.int 36) .nil)))))) .nil)) .nil) (.cons (.set (.nam 6) (.idx (.var 1) (.call "_law_draw" (.cons (.var 0) (.cons (.bi "len" (.cons (.var 1) .nil)) .nil))))) (.cons (.set (.nam 4) (.ite (.cmp .Eq (.var 3) (.int 0)) (.sli (.var 6) .non (.bin .Add (.int 1) (.call "_law_draw" (.cons (.var 0) (.cons (.bi "len" (.cons (.var 6) .nil)) .nil))))) (.bin .Add (.sli (.var 6) .non (.int 7)) (.idx (.var 2) (.call "_law_draw" (.cons (.var 0) (.cons (.int 36) .nil))))))) .nil))) (.cons (.for_ (.nam 5) (.rng1 (.int 30)) (.cons (.ifs (.cmp .In (.var 4) (.var 1)) (.cons (.set (.nam 4) (.bin .Add (.sli (.var 4) .non (.neg (.int 1))) (.idx (.var 2) (.bin .Mod (.bin .Add (.met (.var 2) "index" (.cons (.idx (.var 4) (.neg (.int 1))) .nil)) (.int 1)) (.ite (.cmp .Eq (.bi "len" (.cons (.var 4) .nil)) (.int 1)) (.int 26) (.int 36)))))) .nil) .nil) .nil)) (.cons (.ret (.var 4)) .nil))))))
/-- _law_kind: 1 given, 5 names: feed_here way low wide high -/
def bKind : Sxs := (.cons (.set (.nam 1) (.call "_law_draw" (.cons (.var 0) (.cons (.int 3) .nil)))) (.cons (.ifs (.cmp .Eq (.var 1) (.int 0)) (.cons (.ret (.tup (.cons (.str "one") (.cons (.bin .Add (.int 1) (.call "_law_draw" (.cons (.var 0) (.cons (.int 6) .nil)))) .nil)))) .nil) .nil) (.cons (.ifs (.cmp .Eq (.var 1) (.int 1)) (.cons (.ret (.tup (.cons (.str "some") (.cons (.bin .Add (.int 1) (.call "_law_draw" (.cons (.var 0) (.cons (.int 4) .nil)))) .nil)))) .nil) .nil) (.cons (.set (.nam 2) (.ite (.cmp .Eq (.call "_law_draw" (.cons (.var 0) (.cons (.int 4) .nil))) (.int 0)) (.bin .Sub (.call "_law_draw" (.cons (.var 0) (.cons (.int 2001) .nil))) (.int 1000)) (.bin .Sub (.call "_law_draw" (.cons (.var 0) (.cons (.int 9) .nil))) (.int 4)))) (.cons (.set (.nam 3) (.call "_law_draw" (.cons (.var 0) (.cons (.int 4) .nil)))) (.cons (.set (.nam 4) (.ite (.cmp .Eq (.var 3) (.int 0)) (.var 2) (.int 1000))) (.cons (.ifs (.cmp .Gt (.var 3) (.int 1)) (.cons (.set (.nam 4) (.bi "min" (.cons (.int 1000) (.cons (.bin .Add (.var 2) (.call "_law_draw" (.cons (.var 0) (.cons (.int 7) .nil)))) .nil)))) .nil) .nil) (.cons (.ret (.tup (.cons (.str "number") (.cons (.var 2) (.cons (.var 4) .nil))))) .nil))))))))
/-- _law_reply: 2 given, 4 names: feed_here kind_here k way -/
def bReply : Sxs := (.cons (.ifs (.cmp .Eq (.idx (.var 1) (.int 0)) (.str "one")) (.cons (.ret (.call "_law_draw" (.cons (.var 0) (.cons (.idx (.var 1) (.int 1)) .nil)))) .nil) .nil) (.cons (.ifs (.cmp .Eq (.idx (.var 1) (.int 0)) (.str "some")) (.cons (.ret (.sq "tuple" (.com [2] (.nam 2) (.rng1 (.idx (.var 1) (.int 1))) (.cmp .Eq (.call "_law_draw" (.cons (.var 0) (.cons (.int 2) .nil))) (.int 1)) (.var 2)))) .nil) .nil) (.cons (.set (.nam 3) (.call "_law_draw" (.cons (.var 0) (.cons (.int 4) .nil)))) (.cons (.ifs (.cmp .Lt (.var 3) (.int 2)) (.cons (.ret (.idx (.var 1) (.bin .Add (.int 1) (.var 3)))) .nil) .nil) (.cons (.ret (.bin .Add (.idx (.var 1) (.int 1)) (.call "_law_draw" (.cons (.var 0) (.cons (.bin .Add (.bin .Sub (.idx (.var 1) (.int 2)) (.idx (.var 1) (.int 1))) (.int 1)) .nil))))) .nil)))))
/-- _law_weight: 1 given, 1 names: feed_here -/
def bWeight : Sxs := (.cons (.ret (.ite (.cmp .Eq (.call "_law_draw" (.cons (.var 0) (.cons (.int 5) .nil))) (.int 0)) (.bin .Sub (.call "_law_draw" (.cons (.var 0) (.cons (.int 2001) .nil))) (.int 1000)) (.bin .Sub (.call "_law_draw" (.cons (.var 0) (.cons (.int 7) .nil))) (.int 3)))) .nil)
/-- _law_of: 3 given, 4 names: feed_here name_here kind_here k -/
def bOf : Sxs := (.cons (.ifs (.cmp .Eq (.idx (.var 2) (.int 0)) (.str "number")) (.cons (.ret (.tup (.cons (.str "times") (.cons (.var 1) (.cons (.call "_law_weight" (.cons (.var 0) .nil)) .nil))))) .nil) .nil) (.cons (.ret (.tup (.cons (.str "of") (.cons (.var 1) (.cons (.sq "tuple" (.com [3] (.nam 3) (.rng1 (.call "_law_draw" (.cons (.var 0) (.cons (.int 9) .nil)))) (.bl true) (.call "_law_weight" (.cons (.var 0) .nil)))) .nil))))) .nil))
/-- _law_plain: 3 given, 9 names: feed_here kinds_here room name_here kind_here way part base bar -/
def bPlain : Sxs := (.cons (.ifs (.cmp .Eq (.var 1) (.lst .nil)) (.cons (.ret (.ite (.cmp .Eq (.call "_law_draw" (.cons (.var 0) (.cons (.int 4) .nil))) (.int 0)) (.tup (.cons (.str "any") (.cons (.tup .nil) .nil))) (.tup (.cons (.str "all") (.cons (.tup .nil) .nil))))) .nil) .nil) (.cons (.set (.tup (.cons (.nam 3) (.cons (.nam 4) .nil))) (.idx (.var 1) (.call "_law_draw" (.cons (.var 0) (.cons (.bi "len" (.cons (.var 1) .nil)) .nil))))) (.cons (.set (.nam 5) (.call "_law_draw" (.cons (.var 0) (.cons (.int 4) .nil)))) (.cons (.ifs (.or (.cmp .Eq (.var 5) (.int 0)) (.and (.cmp .Lt (.var 5) (.int 3)) (.cmp .NotEq (.idx (.var 4) (.int 0)) (.str "number")))) (.cons (.ifs (.cmp .Gt (.var 5) (.int 0)) (.cons (.ret (.tup (.cons (.ite (.cmp .Eq (.idx (.var 4) (.int 0)) (.str "one")) (.str "is") (.str "has")) (.cons (.var 3) (.cons (.call "_law_draw" (.cons (.var 0) (.cons (.bin .Add (.idx (.var 4) (.int 1)) (.int 1)) .nil))) .nil))))) .nil) .nil) (.cons (.ret (.tup (.cons (.str "given") (.cons (.var 3) .nil)))) .nil)) .nil) (.cons (.ifs (.cmp .Lt (.idx (.var 2) (.int 0)) (.int 1)) (.cons (.ret (.tup (.cons (.str "given") (.cons (.var 3) .nil)))) .nil) .nil) (.cons (.augs (.var 2) (.int 0) .Sub (.int 1)) (.cons (.set (.nam 6) (.call "_law_of" (.cons (.var 0) (.cons (.var 3) (.cons (.var 4) .nil))))) (.cons (.set (.nam 7) (.bin .Sub (.call "_law_draw" (.cons (.var 0) (.cons (.int 7) .nil))) (.int 3))) (.cons (.set (.nam 8) (.bin .Sub (.bin .Add (.var 7) (.call "_law_draw" (.cons (.var 0) (.cons (.int 3) .nil)))) (.int 1))) (.cons (.ifs (.cmp .Eq (.idx (.var 4) (.int 0)) (.str "number")) (.cons (.aug 8 .Add (.bin .Mult (.idx (.var 6) (.int 2)) (.call "_law_reply" (.cons (.var 0) (.cons (.var 4) .nil))))) .nil) (.cons (.ifs (.cmp .NotEq (.idx (.var 6) (.int 2)) (.tup .nil)) (.cons (.aug 8 .Add (.idx (.idx (.var 6) (.int 2)) (.call "_law_draw" (.cons (.var 0) (.cons (.bi "len" (.cons (.idx (.var 6) (.int 2)) .nil)) .nil))))) .nil) .nil) .nil)) (.cons (.ret (.tup (.cons (.str "least") (.cons (.tup (.cons (.var 7) (.cons (.tup (.cons (.var 6) .nil)) .nil))) (.cons (.bi "max" (.cons (.neg (.bin .Pow (.int 10) (.int 6))) (.cons (.bi "min" (.cons (.bin .Pow (.int 10) (.int 6)) (.cons (.var 8) .nil))) .nil))) .nil))))) .nil)))))))))))
/-- _law_term: 4 given, 8 names: feed_here kinds_here deep room bits k name_here kind_here -/
def bTerm : Sxs := (.cons (.set (.nam 4) (.lst .nil)) (.cons (.for_ (.nam 5) (.rng1 (.call "_law_draw" (.cons (.var 0) (.cons (.int 4) .nil)))) (.cons (.ifs (.and (.cmp .Gt (.idx (.var 3) (.int 0)) (.int 1)) (.and (.cmp .Gt (.var 2) (.int 0)) (.or (.cmp .Eq (.var 1) (.lst .nil)) (.cmp .Eq (.call "_law_draw" (.cons (.var 0) (.cons (.int 3) .nil))) (.int 0))))) (.cons (.augs (.var 3) (.int 0) .Sub (.int 1)) (.cons (.expr (.met (.var 4) "append" (.cons (.tup (.cons (.str "where") (.cons (.call "_law_sentence" (.cons (.var 0) (.cons (.var 1) (.cons (.var 2) (.cons (.var 3) .nil))))) (.cons (.call "_law_weight" (.cons (.var 0) .nil)) .nil)))) .nil))) .nil)) (.cons (.ifs (.and (.cmp .Gt (.idx (.var 3) (.int 0)) (.int 0)) (.cmp .NotEq (.var 1) (.lst .nil))) (.cons (.augs (.var 3) (.int 0) .Sub (.int 1)) (.cons (.set (.tup (.cons (.nam 6) (.cons (.nam 7) .nil))) (.idx (.var 1) (.call "_law_draw" (.cons (.var 0) (.cons (.bi "len" (.cons (.var 1) .nil)) .nil))))) (.cons (.expr (.met (.var 4) "append" (.cons (.call "_law_of" (.cons (.var 0) (.cons (.var 6) (.cons (.var 7) .nil)))) .nil))) .nil))) .nil) .nil)) .nil)) (.cons (.ret (.tup (.cons (.bin .Sub (.call "_law_draw" (.cons (.var 0) (.cons (.int 21) .nil))) (.int 10)) (.cons (.sq "tuple" (.var 4)) .nil)))) .nil)))
/-- _law_sentence: 4 given, 7 names: feed_here kinds_here deep room way found k -/
def bSentence : Sxs := (.cons (.augs (.var 3) (.int 0) .Sub (.int 1)) (.cons (.set (.nam 4) (.call "_law_draw" (.cons (.var 0) (.cons (.int 7) .nil)))) (.cons (.ifs (.or (.cmp .Lt (.var 2) (.int 2)) (.or (.cmp .Lt (.idx (.var 3) (.int 0)) (.int 1)) (.cmp .Lt (.var 4) (.int 2)))) (.cons (.ret (.call "_law_plain" (.cons (.var 0) (.cons (.var 1) (.cons (.var 3) .nil))))) .nil) .nil) (.cons (.ifs (.cmp .Eq (.var 4) (.int 2)) (.cons (.ret (.tup (.cons (.str "not") (.cons (.call "_law_sentence" (.cons (.var 0) (.cons (.var 1) (.cons (.bin .Sub (.var 2) (.int 1)) (.cons (.var 3) .nil))))) .nil)))) .nil) .nil) (.cons (.ifs (.cmp .Eq (.var 4) (.int 3)) (.cons (.ret (.tup (.cons (.str "least") (.cons (.call "_law_term" (.cons (.var 0) (.cons (.var 1) (.cons (.bin .Sub (.var 2) (.int 1)) (.cons (.var 3) .nil))))) (.cons (.bin .Sub (.call "_law_draw" (.cons (.var 0) (.cons (.int 21) .nil))) (.int 10)) .nil))))) .nil) .nil) (.cons (.set (.nam 5) (.lst .nil)) (.cons (.for_ (.nam 6) (.rng1 (.call "_law_draw" (.cons (.var 0) (.cons (.int 4) .nil)))) (.cons (.ifs (.cmp .Gt (.idx (.var 3) (.int 0)) (.int 0)) (.cons (.expr (.met (.var 5) "append" (.cons (.call "_law_sentence" (.cons (.var 0) (.cons (.var 1) (.cons (.bin .Sub (.var 2) (.int 1)) (.cons (.var 3) .nil))))) .nil))) .nil) .nil) .nil)) (.cons (.ret (.tup (.cons (.ite (.cmp .Lt (.var 4) (.int 6)) (.str "all") (.str "any")) (.cons (.sq "tuple" (.var 5)) .nil)))) .nil))))))))
/-- _law_kinds: 2 given, 7 names: feed_here many kinds_here k name_here own kind_here -/
def bKinds : Sxs := (.cons (.set (.nam 2) (.lst .nil)) (.cons (.for_ (.nam 3) (.rng1 (.var 1)) (.cons (.set (.nam 4) (.call "_law_name" (.cons (.var 0) (.cons (.com [5, 6] (.tup (.cons (.nam 5) (.cons (.nam 6) .nil))) (.seq (.var 2)) (.bl true) (.var 5)) .nil)))) (.cons (.expr (.met (.var 2) "append" (.cons (.tup (.cons (.var 4) (.cons (.ite (.and (.cmp .Gt (.var 3) (.int 0)) (.cmp .Eq (.call "_law_draw" (.cons (.var 0) (.cons (.int 4) .nil))) (.int 0))) (.idx (.idx (.var 2) (.neg (.int 1))) (.int 1)) (.call "_law_kind" (.cons (.var 0) .nil))) .nil))) .nil))) .nil))) (.cons (.ret (.sq "tuple" (.var 2))) .nil)))
/-- _law_so: 2 given, 10 names: pairs sentence_here word thing wanted told one found name_here answer -/
def bLso : Sxs := (.cons (.set (.tup (.cons (.nam 2) (.cons (.nam 3) .nil))) (.tup (.cons (.idx (.var 1) (.int 0)) (.cons (.idx (.var 1) (.int 1)) .nil)))) (.cons (.ifs (.cmp .Eq (.var 2) (.str "not")) (.cons (.ret (.bin .Sub (.int 1) (.call "_law_so" (.cons (.var 0) (.cons (.var 3) .nil))))) .nil) .nil) (.cons (.ifs (.or (.cmp .Eq (.var 2) (.str "all")) (.cmp .Eq (.var 2) (.str "any"))) (.cons (.set (.nam 4) (.bi "int" (.cons (.cmp .Eq (.var 2) (.str "all")) .nil))) (.cons (.set (.nam 5) (.int 1)) (.cons (.for_ (.nam 6) (.seq (.var 3)) (.cons (.set (.nam 5) (.bin .Mult (.var 5) (.bi "int" (.cons (.cmp .Eq (.call "_law_so" (.cons (.var 0) (.cons (.var 6) .nil))) (.var 4)) .nil)))) .nil)) (.cons (.ret (.ite (.cmp .Eq (.var 4) (.int 1)) (.var 5) (.bin .Sub (.int 1) (.var 5)))) .nil)))) .nil) (.cons (.ifs (.cmp .Eq (.var 2) (.str "least")) (.cons (.ret (.bi "int" (.cons (.cmp .GtE (.call "_law_sum" (.cons (.var 0) (.cons (.var 3) .nil))) (.idx (.var 1) (.int 2))) .nil))) .nil) .nil) (.cons (.set (.nam 7) (.com [8, 9] (.tup (.cons (.nam 8) (.cons (.nam 9) .nil))) (.seq (.var 0)) (.cmp .Eq (.var 8) (.var 3)) (.var 9))) (.cons (.ifs (.cmp .Eq (.var 2) (.str "given")) (.cons (.ret (.bi "len" (.cons (.var 7) .nil))) .nil) .nil) (.cons (.ifs (.cmp .Eq (.var 2) (.str "is")) (.cons (.ret (.met (.var 7) "count" (.cons (.idx (.var 1) (.int 2)) .nil))) .nil) .nil) (.cons (.ret (.sq "sum" (.com [9] (.nam 9) (.seq (.var 7)) (.bl true) (.met (.var 9) "count" (.cons (.idx (.var 1) (.int 2)) .nil))))) .nil))))))))
/-- _law_sum: 2 given, 11 names: pairs term_here told word thing weight_here name_here answer places k w -/
def bLsum : Sxs := (.cons (.set (.nam 2) (.idx (.var 1) (.int 0))) (.cons (.for_ (.tup (.cons (.nam 3) (.cons (.nam 4) (.cons (.nam 5) .nil)))) (.seq (.idx (.var 1) (.int 1))) (.cons (.ifs (.cmp .Eq (.var 3) (.str "where")) (.cons (.aug 2 .Add (.bin .Mult (.var 5) (.call "_law_so" (.cons (.var 0) (.cons (.var 4) .nil))))) .nil) .nil) (.cons (.for_ (.tup (.cons (.nam 6) (.cons (.nam 7) .nil))) (.seq (.var 0)) (.cons (.ifs (.and (.cmp .Eq (.var 3) (.str "times")) (.cmp .Eq (.var 6) (.var 4))) (.cons (.aug 2 .Add (.bin .Mult (.var 5) (.var 7))) .nil) .nil) (.cons (.ifs (.and (.cmp .Eq (.var 3) (.str "of")) (.cmp .Eq (.var 6) (.var 4))) (.cons (.set (.nam 8) (.ite (.bi "isinstance" (.cons (.var 7) (.cons (.ty "tuple") .nil))) (.var 7) (.tup (.cons (.var 7) .nil)))) (.cons (.aug 2 .Add (.sq "sum" (.com [9, 10] (.tup (.cons (.nam 9) (.cons (.nam 10) .nil))) (.enum (.var 5)) (.cmp .In (.var 9) (.var 8)) (.var 10)))) .nil)) .nil) .nil))) .nil))) (.cons (.ret (.var 2)) .nil)))
/-- _law_same: 2 given, 2 names: told due -/
def bSame : Sxs := (.cons (.ret (.or (.and (.cmp .Is (.var 0) (.bl true)) (.var 1)) (.and (.cmp .Is (.var 0) (.bl false)) (.not (.var 1))))) .nil)
/-- _law_mixed: 2 given, 4 names: feed_here pairs found pair -/
def bMixed : Sxs := (.cons (.set (.nam 2) (.lst .nil)) (.cons (.for_ (.nam 3) (.seq (.var 1)) (.cons (.expr (.met (.var 2) "insert" (.cons (.call "_law_draw" (.cons (.var 0) (.cons (.bin .Add (.bi "len" (.cons (.var 2) .nil)) (.int 1)) .nil))) (.cons (.var 3) .nil)))) .nil)) (.cons (.ret (.sq "tuple" (.var 2))) .nil)))
/-- value -/
def bValue : Sxs := (.cons (.ret (.call "comes_to" (.cons (.sq "dict" (.var 0)) (.cons (.var 1) .nil)))) .nil)
end Ev

end

section
set_option maxHeartbeats 1000000
set_option exponentiation.threshold 5000
/-! G0: names. -/
namespace G
open Ev
open PySem (Str PyData)

def DrawC (C : Ctx) : Prop := ∀ {f B : Nat} {S : Sto} {many : Int} {Q : Val → Sto → Prop}, Feed f (B + 1) S → 0 < many → many < 2 ^ 1000 → (∀ r S', 0 ≤ r → r < many → Feed f B S' → Fr (At f) S S' → Q (.int r) S') → V (C.call "_law_draw" [.loc f, .int many]) S Q
abbrev sg : Str := "abcdefghijklmnopqrstuvwxyz0123456789"
/-- the sign of a number below 36 -/
def sgc (i : Nat) : Nat := sg.cps.toList.getD i 0
theorem sg_len : sg.cps.toList.length = 36 := by decide +kernel
theorem sgc_inj : ∀ i, i < 36 → ∀ j, j < 36 → sgc i = sgc j → i = j := by decide +kernel
theorem sgc_lt : ∀ i, i < 36 → sgc i < 0x110000 := by decide +kernel
theorem sgc_occ : ∀ i, i < 36 → PySem.Builtin.Str.occurrences sg ⟨#[sgc i]⟩ 0 sg.length 1 = [i] := by decide +kernel
theorem sg_at {r : Int} (h0 : 0 ≤ r) (h1 : r < 36) : L2.atI sg.cps.toList r = some (sgc r.toNat) := by
  obtain ⟨c, e, e2⟩ := atI_in (xs := sg.cps.toList) h0 (by rw [sg_len]; exact h1)
  rw [e]
  unfold sgc
  rw [List.getD_eq_getElem?_getD, e2]
  rfl
/-- a text by its signs' numbers -/
def nm (is : List Nat) : Str := ⟨(is.map sgc).toArray⟩
structure NI (is : List Nat) : Prop where
  ne : is ≠ []
  len : is.length ≤ 8
  lt : ∀ j ∈ is, j < 36
  hd : ∀ j, is[0]? = some j → j < 26
def NmOk (x : Str) : Prop := ∃ is, x = nm is ∧ NI is
theorem nm_len (is : List Nat) : (nm is).length = is.length := by simp [nm, PySem.Str.length]
theorem nm_cps (is : List Nat) : (nm is).cps.toList = is.map sgc := by simp [nm]
theorem nm_sok {is : List Nat} (h : ∀ j ∈ is, j < 36) {n : Nat} (hl : is.length ≤ n) : SOk n (nm is) := by
  refine ⟨strOk_iff.mpr fun c hc => ?_, by rw [nm_len]; exact hl⟩
  rw [nm_cps, List.mem_map] at hc
  obtain ⟨i, hi, rfl⟩ := hc
  exact sgc_lt i (h i hi)
theorem NI.sok {is : List Nat} (h : NI is) : SOk 8 (nm is) := nm_sok h.lt h.len
theorem NmOk.sok {x : Str} (h : NmOk x) : SOk 8 x := by obtain ⟨is, rfl, h⟩ := h; exact h.sok
theorem map_inj : ∀ {a b : List Nat}, (∀ j ∈ a, j < 36) → (∀ j ∈ b, j < 36) → a.map sgc = b.map sgc → a = b
  | [], [], _, _, _ => rfl
  | [], _ :: _, _, _, h => by cases h
  | _ :: _, [], _, _, h => by cases h
  | x :: a, y :: b, ha, hb, h => by
    rw [List.map_cons, List.map_cons] at h
    have h := List.cons.inj h
    rw [sgc_inj x (ha x (by simp)) y (hb y (by simp)) h.1, map_inj (fun j hj => ha j (by simp [hj])) (fun j hj => hb j (by simp [hj])) h.2]
theorem nm_inj {a b : List Nat} (ha : ∀ j ∈ a, j < 36) (hb : ∀ j ∈ b, j < 36) (h : nm a = nm b) : a = b := by
  have : (nm a).cps.toList = (nm b).cps.toList := by rw [h]
  rw [nm_cps, nm_cps] at this
  exact map_inj ha hb this
theorem nm_app (a : List Nat) (r : Nat) : nm a ++ (⟨#[sgc r]⟩ : Str) = nm (a ++ [r]) := by
  show (⟨(a.map sgc).toArray ++ #[sgc r]⟩ : Str) = ⟨((a ++ [r]).map sgc).toArray⟩
  congr 1
  simp
theorem nm_one (r : Nat) : (⟨#[sgc r]⟩ : Str) = nm [r] := rfl
theorem nm_take (a : List Nat) {k : Int} (h : 0 ≤ k) : (⟨(cut (nm a).cps.toList none (some k)).toArray⟩ : Str) = nm (a.take k.toNat) := by
  rw [nm_cps, cut_take h, ← List.map_take]
  rfl
theorem cut_last {α : Type} (xs : List α) (h : xs ≠ []) : cut xs none (some (-1)) = xs.dropLast := by
  unfold cut HT.sIx
  dsimp only
  have : 0 < xs.length := List.length_pos_iff.mpr h
  rw [if_pos (by decide), List.drop_zero, Nat.sub_zero, List.dropLast_eq_take]
  congr 1
  omega
theorem nm_drop (a : List Nat) (h : a ≠ []) : (⟨(cut (nm a).cps.toList none (some (-1))).toArray⟩ : Str) = nm a.dropLast := by
  rw [nm_cps, cut_last _ (by simpa using h)]
  show (⟨_⟩ : Str) = ⟨_⟩
  congr 2
  simp [List.dropLast_eq_take, List.map_take]
theorem atI_last {α : Type} (xs : List α) (x : α) : L2.atI (xs ++ [x]) (-1) = some x := by
  unfold L2.atI L2.ixN
  rw [if_neg (by decide), if_pos (by simp; omega)]
  simp only [Option.bind_some]
  have : ((-1 : Int) + ((xs ++ [x]).length : Nat)).toNat = xs.length := by rw [List.length_append, List.length_singleton]; omega
  rw [this]
  simp
theorem NI.take {is : List Nat} (h : NI is) {n : Nat} (hn : 0 < n) : NI (is.take n) := by
  refine ⟨?_, by rw [List.length_take]; have := h.len; omega, fun j hj => h.lt j (List.mem_of_mem_take hj), fun j hj => h.hd j ?_⟩
  · intro z
    have : (is.take n).length = 0 := by rw [z]; rfl
    rw [List.length_take] at this
    have := List.length_pos_iff.mpr h.ne
    omega
  · rw [List.getElem?_take] at hj
    rw [if_pos hn] at hj
    exact hj
theorem NI.snoc {is : List Nat} (h : NI is) {r : Nat} (hl : is.length ≤ 7) (hr : r < 36) : NI (is ++ [r]) := by
  refine ⟨by simp, by simp; omega, fun j hj => ?_, fun j hj => h.hd j ?_⟩
  · rcases List.mem_append.mp hj with hj | hj
    · exact h.lt j hj
    · simp at hj; omega
  · have : 0 < is.length := List.length_pos_iff.mpr h.ne
    rwa [List.getElem?_append_left this] at hj
/-- pigeons -/
theorem pigeon {α : Type} [DecidableEq α] : ∀ {l ns : List α}, l.Nodup → (∀ x ∈ l, x ∈ ns) → l.length ≤ ns.length
  | [], _, _, _ => Nat.zero_le _
  | a :: l, ns, h, hs => by
    rw [List.nodup_cons] at h
    have ha := hs a (by simp)
    have := pigeon (l := l) (ns := ns.erase a) h.2 fun x hx => by
      have hne : x ≠ a := fun z => h.1 (z ▸ hx)
      exact (List.mem_erase_of_ne hne).mpr (hs x (by simp [hx]))
    rw [List.length_erase_of_mem ha] at this
    have : 0 < ns.length := List.length_pos_of_mem ha
    simp only [List.length_cons]
    omega
/-- the k-th name on the way from base ++ [l] -/
def nx (base : List Nat) (l k : Nat) : List Nat := base ++ [(l + k) % (if base = [] then 26 else 36)]
theorem nx_lt {base : List Nat} {l k : Nat} : (l + k) % (if base = [] then 26 else 36) < 36 := by
  split
  · have := Nat.mod_lt (l + k) (show 0 < 26 by decide); omega
  · exact Nat.mod_lt _ (by decide)
theorem nx_free {base : List Nat} {l : Nat} {ns : List Str} (hb : ∀ j ∈ base, j < 36) (hl : ns.length ≤ 20) : ¬ ∀ k < 26, nm (nx base l k) ∈ ns := by
  intro h
  have nd : ((List.range 26).map fun k => nm (nx base l k)).Nodup := by
    rw [List.Nodup, List.pairwise_map]
    have := List.pairwise_lt_range (n := 26)
    refine List.Pairwise.imp_of_mem ?_ this
    intro a b ha hb' hab z
    have ha := List.mem_range.mp ha
    have hb' := List.mem_range.mp hb'
    have lt : ∀ k, ∀ j ∈ nx base l k, j < 36 := fun k j hj => by
      rcases List.mem_append.mp hj with hj | hj
      · exact hb j hj
      · simp only [List.mem_singleton] at hj; subst hj; exact nx_lt
    have := nm_inj (lt a) (lt b) z
    unfold nx at this
    have := List.append_cancel_left this
    have := (List.cons.inj this).1
    split at this <;> omega
  have := pigeon (ns := ns) nd fun x hx => by
    obtain ⟨k, hk, rfl⟩ := List.mem_map.mp hx
    exact h k (List.mem_range.mp hk)
  simp at this
  omega
theorem big {n : Nat} (h : n ≤ 100000) : n ≤ PySem.sizeLine := Nat.le_trans h (by decide)
theorem nh {S : Sto} : ∀ p ∈ ([] : List (Nat × List Val)), S[p.1]? = some (.lst p.2) := fun _ h => nomatch h
section
variable {C : Ctx} {S : Sto} {Q : Val → Sto → Prop} {f B : Nat}
theorem DrawC.d (hd : DrawC C) {many : Int} (fd : Feed f (B + 1) S) (h0 : 0 < many) (h1 : many ≤ 1000000) (k : ∀ r S', 0 ≤ r → r < many → Feed f B S' → Fr (At f) S S' → Q (.int r) S') : V (C.call "_law_draw" [.loc f, .int many]) S Q := hd fd h0 (Int.lt_of_le_of_lt h1 (by decide)) k
theorem rd_strs {X : Nat → Prop} : ∀ ns : List Str, RdL X S (ns.map .str) (ns.map .str)
  | [] => .nil
  | n :: ns => .cons (.str n) (rd_strs ns)
theorem fit_strs : ∀ {ns : List Str}, (∀ x ∈ ns, SOk 8 x) → Fits 0 (84 * ns.length) 0 (ns.map .str)
  | [], _ => Fits.nil
  | n :: ns, h => by
    have := Fits.cons (Fit.sok (k := 0) (b := 0) (h n (by simp))) (fit_strs (ns := ns) fun x hx => h x (by simp [hx]))
    exact this.mono (Nat.le_refl _) (by simp; omega) (Nat.le_refl _)
theorem any_str {ns : List Str} {x : Str} : ((ns.map PyData.str).any fun z => PyData.eqv z (.str x)) = decide (x ∈ ns) := by
  rw [List.any_map, Bool.eq_iff_iff, List.any_eq_true, decide_eq_true_iff]
  constructor
  · rintro ⟨y, hy, e⟩
    have : (y == x) = true := by simpa [PyData.eqv] using e
    have : y = x := by simpa using this
    exact this ▸ hy
  · intro h
    exact ⟨x, h, by simp [PyData.eqv]⟩
theorem vInStrs {ns : List Str} {x : Str} {g : Nat} (hg : S[g]? = some (.lst (ns.map .str))) (hns : ∀ x ∈ ns, SOk 8 x) (hx : SOk 8 x) (q : Q (.bl (decide (x ∈ ns))) S) : V (pCmp .In (.str x) (.loc g)) S Q := by
  refine R.vInL (X := fun _ => False) (Y := fun _ => False) (.str x) (.lst hg id (rd_strs ns)) (Fit.sok (k := 0) (b := 0) hx) (Fit.lst (fit_strs hns)) (by decide) (by decide) ?_
  rw [any_str]
  exact q
theorem idx_sg {i : Nat} (h : i < 36) : indexV (.str sg) [.str ⟨#[sgc i]⟩] S = .ok (.int (i : Nat)) S := by
  have e : indexV (.str sg) [.str ⟨#[sgc i]⟩] = (match PySem.Builtin.Str.occurrences sg ⟨#[sgc i]⟩ 0 sg.length 1 with | i :: _ => pure (.int (i : Nat)) | [] => bad) := rfl
  rw [e, sgc_occ i h]
  rfl
theorem eqNilL {ns : List Val} {ds : List PyData} {g : Nat} {k w b : Nat} (hg : S[g]? = some (.lst ns)) (r : RdL (fun _ => False) S ns ds) (ft : Fits k w b ds) (hk : k ≤ 60) (q : Q (.bl ns.isEmpty) (S ++ [.lst []])) : V (pCmp .Eq (.loc g) (.loc S.length)) (S ++ [.lst []]) Q := by
  refine R.vEqD (X := fun _ => False) (Y := fun _ => False) (.lst ((Fr.alloc (X := fun _ => False)).get hg id) id (RdL.fr Fr.alloc r)) (.lst (by simp) id .nil) (Fit.lst ft) (Fit.lst (Fits.nil (k := 0) (w := 0) (b := 0))) (by omega) (by decide) ?_
  have e : PyData.eqv (.list ds) (.list []) = ns.isEmpty := by
    have := r.length
    cases ns <;> cases ds <;> first | rfl | (simp at this) | simp [PyData.eqv, PyData.eqvAll]
  rw [e]
  exact q
theorem name_ok (hd : DrawC C) {g : Nat} {ns : List Str} (fd : Feed f (B + 20) S) (hg : S[g]? = some (.lst (ns.map .str))) (hgf : g ≠ f) (hns : ∀ x ∈ ns, NmOk x) (hl : ns.length ≤ 20) (q : ∀ x S', NmOk x → x ∉ ns → Feed f B S' → Fr (At f) S S' → Q (.str x) S') : V (xSs C bName (start 7 [.loc f, .loc g])) S (ret Q) := by
  have hso : ∀ x ∈ ns, SOk 8 x := fun x hx => (hns x hx).sok
  (repeat (first | refine St.go ?_ | refine R.eVar rfl ?_ | refine ⟨_, rfl, ?_⟩ | refine R.sAug rfl ?_ | refine R.vSliT rfl rfl ?_ | refine R.vIsiNo rfl ?_ | refine R.vIsiBl rfl ?_ | refine R.vIsiIn rfl ?_ | refine R.vIsiSt rfl ?_ | refine R.vIsiTu rfl ?_ | refine R.ssCons ?_ | refine R.ssNil ?_ | refine R.w_iteT ?_ | refine R.w_iteF ?_))
  refine hd fd (by decide) (by decide) fun way S1 _ _ fd1 fr1 => ?_
  (repeat (first | refine St.go ?_ | refine R.eVar rfl ?_ | refine ⟨_, rfl, ?_⟩ | refine R.sAug rfl ?_ | refine R.vSliT rfl rfl ?_ | refine R.vIsiNo rfl ?_ | refine R.vIsiBl rfl ?_ | refine R.vIsiIn rfl ?_ | refine R.vIsiSt rfl ?_ | refine R.vIsiTu rfl ?_ | refine R.ssCons ?_ | refine R.ssNil ?_ | refine R.w_iteT ?_ | refine R.w_iteF ?_))
  refine hd fd1 (by decide) (by decide) fun r S2 h0 h1 fd2 fr2 => ?_
  refine R.vIdxS (x := sg) (big (by decide +kernel)) (sg_at h0 (by omega)) ?_
  rw [nm_one]
  have n1 : NI [r.toNat] := ⟨by simp, by simp, fun j hj => by simp at hj; omega, fun j hj => by simp at hj; omega⟩
  (repeat (first | refine St.go ?_ | refine R.eVar rfl ?_ | refine ⟨_, rfl, ?_⟩ | refine R.sAug rfl ?_ | refine R.vSliT rfl rfl ?_ | refine R.vIsiNo rfl ?_ | refine R.vIsiBl rfl ?_ | refine R.vIsiIn rfl ?_ | refine R.vIsiSt rfl ?_ | refine R.vIsiTu rfl ?_ | refine R.ssCons ?_ | refine R.ssNil ?_ | refine R.w_iteT ?_ | refine R.w_iteF ?_))
  refine R.w_mono (Q := fun t S' => (t = false → ns ≠ []) ∧ Fr (At f) S2 S' ∧ Feed f (B + 18) S' ∧ S'[g]? = some (.lst (ns.map .str))) ?_ ?_
  · have hg2 := (fr1.trans fr2).get hg hgf
    refine R.w_ite (fun _ => ?_) (fun _ => ?_)
    · (repeat (first | refine St.go ?_ | refine R.eVar rfl ?_ | refine ⟨_, rfl, ?_⟩ | refine R.sAug rfl ?_ | refine R.vSliT rfl rfl ?_ | refine R.vIsiNo rfl ?_ | refine R.vIsiBl rfl ?_ | refine R.vIsiIn rfl ?_ | refine R.vIsiSt rfl ?_ | refine R.vIsiTu rfl ?_ | refine R.ssCons ?_ | refine R.ssNil ?_ | refine R.w_iteT ?_ | refine R.w_iteF ?_))
      exact ⟨(fun z => nomatch z), Fr.refl, fd2, hg2⟩
    · (repeat (first | refine St.go ?_ | refine R.eVar rfl ?_ | refine ⟨_, rfl, ?_⟩ | refine R.sAug rfl ?_ | refine R.vSliT rfl rfl ?_ | refine R.vIsiNo rfl ?_ | refine R.vIsiBl rfl ?_ | refine R.vIsiIn rfl ?_ | refine R.vIsiSt rfl ?_ | refine R.vIsiTu rfl ?_ | refine R.ssCons ?_ | refine R.ssNil ?_ | refine R.w_iteT ?_ | refine R.w_iteF ?_))
      refine eqNilL hg2 (rd_strs ns) (fit_strs hso) (by decide) ?_
      (repeat (first | refine St.go ?_ | refine R.eVar rfl ?_ | refine ⟨_, rfl, ?_⟩ | refine R.sAug rfl ?_ | refine R.vSliT rfl rfl ?_ | refine R.vIsiNo rfl ?_ | refine R.vIsiBl rfl ?_ | refine R.vIsiIn rfl ?_ | refine R.vIsiSt rfl ?_ | refine R.vIsiTu rfl ?_ | refine R.ssCons ?_ | refine R.ssNil ?_ | refine R.w_iteT ?_ | refine R.w_iteF ?_))
      refine ⟨fun z => ?_, Fr.alloc, fd2.grow Fr.alloc, (Fr.alloc (X := fun _ => False)).get hg2 id⟩
      intro e
      rw [e] at z
      cases z
  rintro t S3 ⟨ht, fr3, fd3, hg3⟩
  have fr3' := fr1.trans (fr2.trans fr3)
  have tail : ∀ (is : List Nat) (S4 : Sto) o1 o2, NI is → Feed f B S4 → Fr (At f) S S4 → S4[g]? = some (.lst (ns.map .str)) → aft C (.cons (.for_ (.nam 5) (.rng1 (.int 30)) (.cons (.ifs (.cmp .In (.var 4) (.var 1)) (.cons (.set (.nam 4) (.bin .Add (.sli (.var 4) .non (.neg (.int 1))) (.idx (.var 2) (.bin .Mod (.bin .Add (.met (.var 2) "index" (.cons (.idx (.var 4) (.neg (.int 1))) .nil)) (.int 1)) (.ite (.cmp .Eq (.bi "len" (.cons (.var 4) .nil)) (.int 1)) (.int 26) (.int 36)))))) .nil) .nil) .nil)) (.cons (.ret (.var 4)) .nil)) (ret Q)
      (.nx [some (.loc f), some (.loc g), some (.str sg), some (.int way), some (.str (nm is)), o1, o2]) S4 := by
    intro is S4 o1 o2 hi fd4 fr4 hg4
    obtain ⟨base, l, rfl⟩ : ∃ base l, is = base ++ [l] := ⟨is.dropLast, is.getLast hi.ne, (List.dropLast_concat_getLast hi.ne).symm⟩
    have hbase : ∀ j ∈ base, j < 36 := fun j hj => hi.lt j (by simp [hj])
    have hl0 : l < (if base = [] then 26 else 36) := by
      split
      · rename_i e; subst e; exact hi.hd l rfl
      · exact hi.lt l (by simp)
    have nxI : ∀ k, NI (nx base l k) := fun k => by
      refine ⟨by simp [nx], ?_, fun j hj => ?_, fun j hj => ?_⟩
      · have := hi.len; simp [nx] at this ⊢; exact this
      · rcases List.mem_append.mp hj with hj | hj
        · exact hbase j hj
        · simp only [List.mem_singleton] at hj; subst hj; exact nx_lt
      · by_cases hb : base = []
        · subst hb
          simp [nx] at hj
          omega
        · have hp : 0 < base.length := List.length_pos_iff.mpr hb
          unfold nx at hj
          rw [List.getElem?_append_left hp] at hj
          exact hi.hd j (by rw [List.getElem?_append_left hp]; exact hj)
    have nx0 : nx base l 0 = base ++ [l] := by unfold nx; rw [Nat.add_zero, Nat.mod_eq_of_lt hl0]
    (repeat (first | refine St.go ?_ | refine R.eVar rfl ?_ | refine ⟨_, rfl, ?_⟩ | refine R.sAug rfl ?_ | refine R.vSliT rfl rfl ?_ | refine R.vIsiNo rfl ?_ | refine R.vIsiBl rfl ?_ | refine R.vIsiIn rfl ?_ | refine R.vIsiSt rfl ?_ | refine R.vIsiTu rfl ?_ | refine R.ssCons ?_ | refine R.ssNil ?_ | refine R.w_iteT ?_ | refine R.w_iteF ?_))
    refine R.vRng (by decide) (by decide) ?_
    refine R.w_for (I := fun k ρ S' => S' = S4 ∧ ∃ x o, ρ = [some (.loc f), some (.loc g), some (.str sg), some (.int way), some (.str x), o, o2] ∧ NmOk x ∧ (x ∈ ns → x = nm (nx base l k) ∧ ∀ j < k, nm (nx base l j) ∈ ns)) ?_ ?_ ⟨rfl, _, _, rfl, ⟨_, rfl, hi⟩, fun _ => ⟨by rw [nx0], fun j hj => absurd hj (by omega)⟩⟩
    · rintro k x ρ S' hk ⟨rfl, y, o, rfl, so, hy⟩
      refine ⟨nh, _, rfl, ?_⟩
      (repeat (first | refine St.go ?_ | refine R.eVar rfl ?_ | refine ⟨_, rfl, ?_⟩ | refine R.sAug rfl ?_ | refine R.vSliT rfl rfl ?_ | refine R.vIsiNo rfl ?_ | refine R.vIsiBl rfl ?_ | refine R.vIsiIn rfl ?_ | refine R.vIsiSt rfl ?_ | refine R.vIsiTu rfl ?_ | refine R.ssCons ?_ | refine R.ssNil ?_ | refine R.w_iteT ?_ | refine R.w_iteF ?_))
      refine vInStrs hg4 hso so.sok ?_
      (repeat (first | refine St.go ?_ | refine R.eVar rfl ?_ | refine ⟨_, rfl, ?_⟩ | refine R.sAug rfl ?_ | refine R.vSliT rfl rfl ?_ | refine R.vIsiNo rfl ?_ | refine R.vIsiBl rfl ?_ | refine R.vIsiIn rfl ?_ | refine R.vIsiSt rfl ?_ | refine R.vIsiTu rfl ?_ | refine R.ssCons ?_ | refine R.ssNil ?_ | refine R.w_iteT ?_ | refine R.w_iteF ?_))
      refine R.w_ite (fun hb => ?_) (fun hb => ?_)
      · have hb := of_decide_eq_true hb
        obtain ⟨e1, e2⟩ := hy hb
        subst e1
        (repeat (first | refine St.go ?_ | refine R.eVar rfl ?_ | refine ⟨_, rfl, ?_⟩ | refine R.sAug rfl ?_ | refine R.vSliT rfl rfl ?_ | refine R.vIsiNo rfl ?_ | refine R.vIsiBl rfl ?_ | refine R.vIsiIn rfl ?_ | refine R.vIsiSt rfl ?_ | refine R.vIsiTu rfl ?_ | refine R.ssCons ?_ | refine R.ssNil ?_ | refine R.w_iteT ?_ | refine R.w_iteF ?_))
        refine R.vSliS (big (by rw [nm_len]; have := (nxI k).len; omega)) rfl rfl ?_
        rw [nm_drop _ (nxI k).ne]
        have ed : (nx base l k).dropLast = base := by simp [nx]
        rw [ed]
        (repeat (first | refine St.go ?_ | refine R.eVar rfl ?_ | refine ⟨_, rfl, ?_⟩ | refine R.sAug rfl ?_ | refine R.vSliT rfl rfl ?_ | refine R.vIsiNo rfl ?_ | refine R.vIsiBl rfl ?_ | refine R.vIsiIn rfl ?_ | refine R.vIsiSt rfl ?_ | refine R.vIsiTu rfl ?_ | refine R.ssCons ?_ | refine R.ssNil ?_ | refine R.w_iteT ?_ | refine R.w_iteF ?_))
        have elast : L2.atI (nm (nx base l k)).cps.toList (-1) = some (sgc ((l + k) % (if base = [] then 26 else 36))) := by
          rw [nm_cps]; unfold nx; rw [List.map_append]; exact atI_last _ _
        refine R.vIdxS (big (by rw [nm_len]; have := (nxI k).len; omega)) elast ?_
        (repeat (first | refine St.go ?_ | refine R.eVar rfl ?_ | refine ⟨_, rfl, ?_⟩ | refine R.sAug rfl ?_ | refine R.vSliT rfl rfl ?_ | refine R.vIsiNo rfl ?_ | refine R.vIsiBl rfl ?_ | refine R.vIsiIn rfl ?_ | refine R.vIsiSt rfl ?_ | refine R.vIsiTu rfl ?_ | refine R.ssCons ?_ | refine R.ssNil ?_ | refine R.w_iteT ?_ | refine R.w_iteF ?_))
        refine R.w_ok (show pMet "str" "index" (.str sg) [.str ⟨#[sgc ((l + k) % (if base = [] then 26 else 36))]⟩] S' = .ok (.int ((((l + k) % (if base = [] then 26 else 36)) : Nat) : Int)) S' from ?_) ?_
        · unfold pMet
          exact idx_sg nx_lt
        (repeat (first | refine St.go ?_ | refine R.eVar rfl ?_ | refine ⟨_, rfl, ?_⟩ | refine R.sAug rfl ?_ | refine R.vSliT rfl rfl ?_ | refine R.vIsiNo rfl ?_ | refine R.vIsiBl rfl ?_ | refine R.vIsiIn rfl ?_ | refine R.vIsiSt rfl ?_ | refine R.vIsiTu rfl ?_ | refine R.ssCons ?_ | refine R.ssNil ?_ | refine R.w_iteT ?_ | refine R.w_iteF ?_))
        refine R.vLenS (big (by rw [nm_len]; have := (nxI k).len; omega)) ?_
        (repeat (first | refine St.go ?_ | refine R.eVar rfl ?_ | refine ⟨_, rfl, ?_⟩ | refine R.sAug rfl ?_ | refine R.vSliT rfl rfl ?_ | refine R.vIsiNo rfl ?_ | refine R.vIsiBl rfl ?_ | refine R.vIsiIn rfl ?_ | refine R.vIsiSt rfl ?_ | refine R.vIsiTu rfl ?_ | refine R.ssCons ?_ | refine R.ssNil ?_ | refine R.w_iteT ?_ | refine R.w_iteF ?_))
        have fin : ∀ m : Nat, (m = if base = [] then 26 else 36) → V (pBin .Mod (.int ((((l + k) % (if base = [] then 26 else 36)) : Nat) + 1)) (.int (m : Nat))) S' (fun y S2 => V (pIdx (.str sg) y) S2 fun y S2 => V (pBin .Add (.str (nm base)) y) S2 fun v S1 => ∃ ρ', asg (.nam 4) v [some (.loc f), some (.loc g), some (.str sg), some (.int way), some (.str (nm (nx base l k))), some x, o2] = some ρ' ∧ aft C .nil (aft C .nil fun f_1 S'_1 => match f_1 with
            | .nx ρ2 => (S'_1 = S' ∧ ∃ x o, ρ2 = [some (.loc f), some (.loc g), some (.str sg), some (.int way), some (.str x), o, o2] ∧ NmOk x ∧ (x ∈ ns → x = nm (nx base l (k + 1)) ∧ ∀ j < k + 1, nm (nx base l j) ∈ ns))
            | .ct ρ2 => (S'_1 = S' ∧ ∃ x o, ρ2 = [some (.loc f), some (.loc g), some (.str sg), some (.int way), some (.str x), o, o2] ∧ NmOk x ∧ (x ∈ ns → x = nm (nx base l (k + 1)) ∧ ∀ j < k + 1, nm (nx base l j) ∈ ns))
            | .bk ρ2 => aft C (.cons (.ret (.var 4)) .nil) (ret Q) (.nx ρ2) S'_1
            | .rt v => aft C (.cons (.ret (.var 4)) .nil) (ret Q) (.rt v) S'_1) (.nx ρ') S1) := by
          intro m hm
          have hmp : 0 < m := by rw [hm]; split <;> decide
          refine R.vMod (by exact_mod_cast hmp) ?_
          have e5 : ((((l + k) % (if base = [] then 26 else 36) : Nat) : Int) + 1) % (m : Int) = (((l + (k + 1)) % (if base = [] then 26 else 36) : Nat) : Int) := by
            rw [← hm]
            have : ((((l + k) % m : Nat) : Int) + 1) = (((l + k) % m + 1 : Nat) : Int) := by omega
            rw [this, ← Int.natCast_emod]
            congr 1
            rw [Nat.mod_add_mod]
            rfl
          rw [e5]
          refine R.vIdxS (x := sg) (big (by decide +kernel)) (sg_at (by omega) (by have := @nx_lt base l (k + 1); omega)) ?_
          have hz := (nxI (k + 1)).len
          refine R.vAddS (big (by rw [nm_len]; show _ + 1 ≤ _; simp [nx] at hz; omega)) ?_
          rw [nm_app]
          (repeat (first | refine St.go ?_ | refine R.eVar rfl ?_ | refine ⟨_, rfl, ?_⟩ | refine R.sAug rfl ?_ | refine R.vSliT rfl rfl ?_ | refine R.vIsiNo rfl ?_ | refine R.vIsiBl rfl ?_ | refine R.vIsiIn rfl ?_ | refine R.vIsiSt rfl ?_ | refine R.vIsiTu rfl ?_ | refine R.ssCons ?_ | refine R.ssNil ?_ | refine R.w_iteT ?_ | refine R.w_iteF ?_))
          refine ⟨rfl, _, _, rfl, ⟨_, by rw [Int.toNat_natCast]; rfl, nxI (k + 1)⟩, fun _ => ⟨by rw [Int.toNat_natCast]; rfl, fun j hj => ?_⟩⟩
          by_cases hjk : j < k
          · exact e2 j hjk
          · have : j = k := by omega
            subst this; exact hb
        by_cases hbe : base = []
        · have e6 : (((nm (nx base l k)).length : Nat) : Int) = 1 := by rw [nm_len]; simp [nx, hbe]
          rw [e6]
          (repeat (first | refine St.go ?_ | refine R.eVar rfl ?_ | refine ⟨_, rfl, ?_⟩ | refine R.sAug rfl ?_ | refine R.vSliT rfl rfl ?_ | refine R.vIsiNo rfl ?_ | refine R.vIsiBl rfl ?_ | refine R.vIsiIn rfl ?_ | refine R.vIsiSt rfl ?_ | refine R.vIsiTu rfl ?_ | refine R.ssCons ?_ | refine R.ssNil ?_ | refine R.w_iteT ?_ | refine R.w_iteF ?_))
          exact fin 26 (by rw [if_pos hbe])
        · have e6 : decide ((((nm (nx base l k)).length : Nat) : Int) = 1) = false := by
            apply decide_eq_false
            rw [nm_len]
            have : 0 < base.length := List.length_pos_iff.mpr hbe
            simp [nx]; omega
          rw [e6]
          (repeat (first | refine St.go ?_ | refine R.eVar rfl ?_ | refine ⟨_, rfl, ?_⟩ | refine R.sAug rfl ?_ | refine R.vSliT rfl rfl ?_ | refine R.vIsiNo rfl ?_ | refine R.vIsiBl rfl ?_ | refine R.vIsiIn rfl ?_ | refine R.vIsiSt rfl ?_ | refine R.vIsiTu rfl ?_ | refine R.ssCons ?_ | refine R.ssNil ?_ | refine R.w_iteT ?_ | refine R.w_iteF ?_))
          exact fin 36 (by rw [if_neg hbe])
      · have hb := of_decide_eq_false hb
        (repeat (first | refine St.go ?_ | refine R.eVar rfl ?_ | refine ⟨_, rfl, ?_⟩ | refine R.sAug rfl ?_ | refine R.vSliT rfl rfl ?_ | refine R.vIsiNo rfl ?_ | refine R.vIsiBl rfl ?_ | refine R.vIsiIn rfl ?_ | refine R.vIsiSt rfl ?_ | refine R.vIsiTu rfl ?_ | refine R.ssCons ?_ | refine R.ssNil ?_ | refine R.w_iteT ?_ | refine R.w_iteF ?_))
        exact ⟨rfl, _, _, rfl, so, fun z => absurd z hb⟩
    · rintro ρ S' ⟨rfl, y, o, rfl, so, hy⟩
      refine ⟨nh, ?_⟩
      (repeat (first | refine St.go ?_ | refine R.eVar rfl ?_ | refine ⟨_, rfl, ?_⟩ | refine R.sAug rfl ?_ | refine R.vSliT rfl rfl ?_ | refine R.vIsiNo rfl ?_ | refine R.vIsiBl rfl ?_ | refine R.vIsiIn rfl ?_ | refine R.vIsiSt rfl ?_ | refine R.vIsiTu rfl ?_ | refine R.ssCons ?_ | refine R.ssNil ?_ | refine R.w_iteT ?_ | refine R.w_iteF ?_))
      refine q y S' so (fun z => ?_) fd4 fr4
      obtain ⟨_, e2⟩ := hy z
      exact nx_free hbase hl fun k hk => e2 k (by simp; omega)
  refine R.w_mono (Q := fun fl S4 => ∃ is o1 o2, fl = .nx [some (.loc f), some (.loc g), some (.str sg), some (.int way), some (.str (nm is)), o1, o2] ∧ NI is ∧ Feed f B S4 ∧ Fr (At f) S S4 ∧ S4[g]? = some (.lst (ns.map .str))) ?_ (by rintro fl S4 ⟨is, o1, o2, rfl, h1, h2, h3, h4⟩; exact tail is S4 o1 o2 h1 h2 h3 h4)
  refine R.w_ite (fun ht2 => ?_) (fun ht2 => ?_)
  · (repeat (first | refine St.go ?_ | refine R.eVar rfl ?_ | refine ⟨_, rfl, ?_⟩ | refine R.sAug rfl ?_ | refine R.vSliT rfl rfl ?_ | refine R.vIsiNo rfl ?_ | refine R.vIsiBl rfl ?_ | refine R.vIsiIn rfl ?_ | refine R.vIsiSt rfl ?_ | refine R.vIsiTu rfl ?_ | refine R.ssCons ?_ | refine R.ssNil ?_ | refine R.w_iteT ?_ | refine R.w_iteF ?_))
    refine hd fd3 (by decide) (by decide) fun r S4 h0 h1 fd4 fr4 => ?_
    refine R.vRng h0 (by omega) ?_
    refine R.w_for (I := fun k ρ S' => k ≤ r.toNat ∧ Feed f (B + 17 - k) S' ∧ Fr (At f) S4 S' ∧ ∃ is o, ρ = [some (.loc f), some (.loc g), some (.str sg), some (.int way), some (.str (nm is)), o, none] ∧ NI is ∧ is.length = 1 + k) ?_ ?_ ⟨Nat.zero_le _, fd4, Fr.refl, _, none, rfl, n1, rfl⟩
    · rintro k x ρ S' hk ⟨hk1, fd5, fr5, is, o, rfl, so, hp⟩
      have hk2 : k < r.toNat := by
        have := (List.getElem?_eq_some_iff.mp hk).1
        simpa using this
      refine ⟨nh, _, rfl, ?_⟩
      (repeat (first | refine St.go ?_ | refine R.eVar rfl ?_ | refine ⟨_, rfl, ?_⟩ | refine R.sAug rfl ?_ | refine R.vSliT rfl rfl ?_ | refine R.vIsiNo rfl ?_ | refine R.vIsiBl rfl ?_ | refine R.vIsiIn rfl ?_ | refine R.vIsiSt rfl ?_ | refine R.vIsiTu rfl ?_ | refine R.ssCons ?_ | refine R.ssNil ?_ | refine R.w_iteT ?_ | refine R.w_iteF ?_))
      have e9 : B + 17 - k = (B + 17 - (k + 1)) + 1 := by omega
      rw [e9] at fd5
      refine hd fd5 (by decide) (by decide) fun r2 S6 h0 h1 fd6 fr6 => ?_
      refine R.vIdxS (x := sg) (big (by decide +kernel)) (sg_at h0 h1) ?_
      refine R.vAddS (big (by rw [nm_len]; show _ + 1 ≤ _; have := so.len; omega)) ?_
      rw [nm_app]
      (repeat (first | refine St.go ?_ | refine R.eVar rfl ?_ | refine ⟨_, rfl, ?_⟩ | refine R.sAug rfl ?_ | refine R.vSliT rfl rfl ?_ | refine R.vIsiNo rfl ?_ | refine R.vIsiBl rfl ?_ | refine R.vIsiIn rfl ?_ | refine R.vIsiSt rfl ?_ | refine R.vIsiTu rfl ?_ | refine R.ssCons ?_ | refine R.ssNil ?_ | refine R.w_iteT ?_ | refine R.w_iteF ?_))
      exact ⟨hk2, fd6, fr5.trans fr6, _, _, rfl, so.snoc (by omega) (by omega), by simp; omega⟩
    · rintro ρ S' ⟨_, fd5, fr5, is, o, rfl, so, hp⟩
      refine ⟨nh, ?_⟩
      (repeat (first | refine St.go ?_ | refine R.eVar rfl ?_ | refine ⟨_, rfl, ?_⟩ | refine R.sAug rfl ?_ | refine R.vSliT rfl rfl ?_ | refine R.vIsiNo rfl ?_ | refine R.vIsiBl rfl ?_ | refine R.vIsiIn rfl ?_ | refine R.vIsiSt rfl ?_ | refine R.vIsiTu rfl ?_ | refine R.ssCons ?_ | refine R.ssNil ?_ | refine R.w_iteT ?_ | refine R.w_iteF ?_))
      exact ⟨is, _, _, rfl, so, fd5.mono (by simp; omega), fr3'.trans (fr4.trans fr5), (fr4.trans fr5).get hg3 hgf⟩
  · have hne := ht ht2
    have hpos : 0 < ns.length := List.length_pos_iff.mpr hne
    (repeat (first | refine St.go ?_ | refine R.eVar rfl ?_ | refine ⟨_, rfl, ?_⟩ | refine R.sAug rfl ?_ | refine R.vSliT rfl rfl ?_ | refine R.vIsiNo rfl ?_ | refine R.vIsiBl rfl ?_ | refine R.vIsiIn rfl ?_ | refine R.vIsiSt rfl ?_ | refine R.vIsiTu rfl ?_ | refine R.ssCons ?_ | refine R.ssNil ?_ | refine R.w_iteT ?_ | refine R.w_iteF ?_))
    refine R.vLenL hg3 ?_
    have hm : (0 : Int) < ((ns.map Val.str).length : Nat) ∧ (((ns.map Val.str).length : Nat) : Int) ≤ 1000000 := by rw [List.length_map]; omega
    (repeat (first | refine St.go ?_ | refine R.eVar rfl ?_ | refine ⟨_, rfl, ?_⟩ | refine R.sAug rfl ?_ | refine R.vSliT rfl rfl ?_ | refine R.vIsiNo rfl ?_ | refine R.vIsiBl rfl ?_ | refine R.vIsiIn rfl ?_ | refine R.vIsiSt rfl ?_ | refine R.vIsiTu rfl ?_ | refine R.ssCons ?_ | refine R.ssNil ?_ | refine R.w_iteT ?_ | refine R.w_iteF ?_))
    refine hd.d fd3 hm.1 hm.2 fun r S4 h0 h1 fd4 fr4 => ?_
    have hg4 := fr4.get hg3 hgf
    obtain ⟨own, e1, e2⟩ := atI_in (xs := ns.map Val.str) h0 h1
    rw [List.getElem?_map] at e2
    cases e3 : ns[r.toNat]? with
    | none => rw [e3] at e2; cases e2
    | some z =>
      rw [e3] at e2
      cases e2
      refine R.vIdxL hg4 e1 ?_
      obtain ⟨iz, rfl, nz⟩ := hns z (List.mem_of_getElem? e3)
      (repeat (first | refine St.go ?_ | refine R.eVar rfl ?_ | refine ⟨_, rfl, ?_⟩ | refine R.sAug rfl ?_ | refine R.vSliT rfl rfl ?_ | refine R.vIsiNo rfl ?_ | refine R.vIsiBl rfl ?_ | refine R.vIsiIn rfl ?_ | refine R.vIsiSt rfl ?_ | refine R.vIsiTu rfl ?_ | refine R.ssCons ?_ | refine R.ssNil ?_ | refine R.w_iteT ?_ | refine R.w_iteF ?_))
      refine R.w_ite (fun hw => ?_) (fun hw => ?_)
      · (repeat (first | refine St.go ?_ | refine R.eVar rfl ?_ | refine ⟨_, rfl, ?_⟩ | refine R.sAug rfl ?_ | refine R.vSliT rfl rfl ?_ | refine R.vIsiNo rfl ?_ | refine R.vIsiBl rfl ?_ | refine R.vIsiIn rfl ?_ | refine R.vIsiSt rfl ?_ | refine R.vIsiTu rfl ?_ | refine R.ssCons ?_ | refine R.ssNil ?_ | refine R.w_iteT ?_ | refine R.w_iteF ?_))
        refine R.vLenS (big (by rw [nm_len]; have := nz.len; omega)) ?_
        have hzp : 0 < iz.length := List.length_pos_iff.mpr nz.ne
        have hm2 : (0 : Int) < ((nm iz).length : Nat) ∧ (((nm iz).length : Nat) : Int) ≤ 1000000 := by rw [nm_len]; have := nz.len; omega
        (repeat (first | refine St.go ?_ | refine R.eVar rfl ?_ | refine ⟨_, rfl, ?_⟩ | refine R.sAug rfl ?_ | refine R.vSliT rfl rfl ?_ | refine R.vIsiNo rfl ?_ | refine R.vIsiBl rfl ?_ | refine R.vIsiIn rfl ?_ | refine R.vIsiSt rfl ?_ | refine R.vIsiTu rfl ?_ | refine R.ssCons ?_ | refine R.ssNil ?_ | refine R.w_iteT ?_ | refine R.w_iteF ?_))
        refine hd.d fd4 hm2.1 hm2.2 fun r2 S5 h2 h3 fd5 fr5 => ?_
        (repeat (first | refine St.go ?_ | refine R.eVar rfl ?_ | refine ⟨_, rfl, ?_⟩ | refine R.sAug rfl ?_ | refine R.vSliT rfl rfl ?_ | refine R.vIsiNo rfl ?_ | refine R.vIsiBl rfl ?_ | refine R.vIsiIn rfl ?_ | refine R.vIsiSt rfl ?_ | refine R.vIsiTu rfl ?_ | refine R.ssCons ?_ | refine R.ssNil ?_ | refine R.w_iteT ?_ | refine R.w_iteF ?_))
        refine R.vSliS (big (by rw [nm_len]; have := nz.len; omega)) rfl rfl ?_
        rw [nm_take _ (by omega)]
        (repeat (first | refine St.go ?_ | refine R.eVar rfl ?_ | refine ⟨_, rfl, ?_⟩ | refine R.sAug rfl ?_ | refine R.vSliT rfl rfl ?_ | refine R.vIsiNo rfl ?_ | refine R.vIsiBl rfl ?_ | refine R.vIsiIn rfl ?_ | refine R.vIsiSt rfl ?_ | refine R.vIsiTu rfl ?_ | refine R.ssCons ?_ | refine R.ssNil ?_ | refine R.w_iteT ?_ | refine R.w_iteF ?_))
        exact ⟨_, _, _, rfl, nz.take (by omega), fd5.mono (by omega), fr3'.trans (fr4.trans fr5), fr5.get hg4 hgf⟩
      · (repeat (first | refine St.go ?_ | refine R.eVar rfl ?_ | refine ⟨_, rfl, ?_⟩ | refine R.sAug rfl ?_ | refine R.vSliT rfl rfl ?_ | refine R.vIsiNo rfl ?_ | refine R.vIsiBl rfl ?_ | refine R.vIsiIn rfl ?_ | refine R.vIsiSt rfl ?_ | refine R.vIsiTu rfl ?_ | refine R.ssCons ?_ | refine R.ssNil ?_ | refine R.w_iteT ?_ | refine R.w_iteF ?_))
        refine R.vSliS (big (by rw [nm_len]; have := nz.len; omega)) rfl rfl ?_
        rw [nm_take _ (by decide)]
        (repeat (first | refine St.go ?_ | refine R.eVar rfl ?_ | refine ⟨_, rfl, ?_⟩ | refine R.sAug rfl ?_ | refine R.vSliT rfl rfl ?_ | refine R.vIsiNo rfl ?_ | refine R.vIsiBl rfl ?_ | refine R.vIsiIn rfl ?_ | refine R.vIsiSt rfl ?_ | refine R.vIsiTu rfl ?_ | refine R.ssCons ?_ | refine R.ssNil ?_ | refine R.w_iteT ?_ | refine R.w_iteF ?_))
        refine hd fd4 (by decide) (by decide) fun r2 S5 h2 h3 fd5 fr5 => ?_
        refine R.vIdxS (x := sg) (big (by decide +kernel)) (sg_at h2 h3) ?_
        have hz7 : (iz.take 7).length ≤ 7 := by rw [List.length_take]; omega
        refine R.vAddS (big (by rw [nm_len]; show (iz.take 7).length + 1 ≤ _; omega)) ?_
        rw [nm_app]
        (repeat (first | refine St.go ?_ | refine R.eVar rfl ?_ | refine ⟨_, rfl, ?_⟩ | refine R.sAug rfl ?_ | refine R.vSliT rfl rfl ?_ | refine R.vIsiNo rfl ?_ | refine R.vIsiBl rfl ?_ | refine R.vIsiIn rfl ?_ | refine R.vIsiSt rfl ?_ | refine R.vIsiTu rfl ?_ | refine R.ssCons ?_ | refine R.ssNil ?_ | refine R.w_iteT ?_ | refine R.w_iteF ?_))
        exact ⟨_, _, _, rfl, (nz.take (n := 7) (by decide)).snoc hz7 (by omega), fd5.mono (by omega), fr3'.trans (fr4.trans fr5), fr5.get hg4 hgf⟩
end
end G

end

section
set_option maxHeartbeats 1000000
set_option exponentiation.threshold 5000
/-! G1: kinds, sentences, terms as they are drawn. -/
namespace G
open Ev
open PySem (Str PyData)

/-! ### values without places -/
mutual
def dOf : Val → PyData
  | .non => .none
  | .bl b => .bool b
  | .int i => .int i
  | .str x => .str x
  | .tup xs => .tuple (dOfs xs)
  | _ => .none
def dOfs : List Val → List PyData
  | [] => []
  | x :: xs => dOf x :: dOfs xs
end
/-- a value without places, of at most k storeys and w signs, numbers below 2^64 -/
structure PF (k w : Nat) (v : Val) : Prop where
  rd : ∀ X S, Rd X S v (dOf v)
  ft : Fit k w 64 (dOf v)
structure PFs (k w : Nat) (vs : List Val) : Prop where
  rd : ∀ X S, RdL X S vs (dOfs vs)
  ft : Fits k w 64 (dOfs vs)
section
variable {k w k' w' : Nat} {v : Val} {vs us : List Val}
theorem PF.mono (h : PF k w v) (x : k ≤ k') (y : w ≤ w') : PF k' w' v := ⟨h.rd, h.ft.mono x y (Nat.le_refl _)⟩
theorem PFs.mono (h : PFs k w vs) (x : k ≤ k') (y : w ≤ w') : PFs k' w' vs := ⟨h.rd, h.ft.mono x y (Nat.le_refl _)⟩
theorem PFs.nil : PFs k 0 [] := ⟨fun _ _ => by unfold dOfs; exact .nil, by unfold dOfs; exact Fits.nil⟩
theorem PFs.cons (h : PF k w v) (t : PFs k w' vs) : PFs k (w + 2 + w') (v :: vs) := ⟨fun X S => by unfold dOfs; exact .cons (h.rd X S) (t.rd X S), by unfold dOfs; exact Fits.cons h.ft t.ft⟩
theorem PF.tup (h : PFs k w vs) : PF (k + 1) (w + 3) (.tup vs) := ⟨fun X S => by unfold dOf; exact .tup (h.rd X S), by unfold dOf; exact Fit.tup h.ft⟩
theorem PF.int {i : Int} (h : i.natAbs < 2 ^ 64) : PF 0 67 (.int i) := ⟨fun X S => by unfold dOf; exact .int i, by unfold dOf; exact Fit.int h⟩
theorem PF.str {x : Str} {n : Nat} (h : SOk n x) : PF 0 (10 * n + 2) (.str x) := ⟨fun X S => by unfold dOf; exact .str x, by unfold dOf; exact Fit.sok h⟩
theorem PF.s8 {x : Str} (h : SOk 8 x) : PF 0 82 (.str x) := PF.str h
theorem PF.wd {x : Str} (h : (PyData.strOk x && decide (x.length ≤ 8)) = true) : PF 0 82 (.str x) := by
  rw [Bool.and_eq_true, decide_eq_true_iff] at h
  exact PF.s8 ⟨h.1, h.2⟩
theorem dOfs_app : ∀ {vs us : List Val}, dOfs (vs ++ us) = dOfs vs ++ dOfs us
  | [], _ => by simp [dOfs]
  | v :: vs, us => by simp [dOfs, dOfs_app (vs := vs)]
theorem PFs.append (h : PFs k w vs) (t : PFs k w' us) : PFs k (w + w') (vs ++ us) := ⟨fun X S => by rw [dOfs_app]; exact (h.rd X S).append (t.rd X S), by rw [dOfs_app]; exact h.ft.append t.ft⟩
theorem PFs.of_all : ∀ {vs : List Val}, (∀ v ∈ vs, PF k w v) → PFs k ((w + 2) * vs.length) vs
  | [], _ => PFs.nil
  | v :: vs, h => by
    have := PFs.cons (h v (by simp)) (PFs.of_all (vs := vs) fun x hx => h x (by simp [hx]))
    exact this.mono (Nat.le_refl _) (by rw [List.length_cons, Nat.mul_succ]; omega)
end
theorem small {i : Int} {n : Nat} (h1 : -(n : Int) ≤ i) (h2 : i ≤ n) (h : n < 2 ^ 64) : i.natAbs < 2 ^ 64 := by omega
theorem small63 {i : Int} (h1 : -1000000 ≤ i) (h2 : i ≤ 1000000) : i.natAbs < 2 ^ 64 := by
  have : (2 : Nat) ^ 64 = 18446744073709551616 := by decide
  omega
theorem small4 {i : Int} (h1 : -1000000 ≤ i) (h2 : i ≤ 1000000) : i.natAbs < 2 ^ 4000 := Nat.lt_of_lt_of_le (small63 h1 h2) (Nat.pow_le_pow_right (by omega) (by omega))

/-! ### kinds and answers -/
inductive Kd where
  | one (n : Nat)
  | some (n : Nat)
  | num (lo hi : Int)
def Kd.v : Kd → Val
  | .one n => .tup [.str "one", .int n]
  | .some n => .tup [.str "some", .int n]
  | .num lo hi => .tup [.str "number", .int lo, .int hi]
def Kd.Ok : Kd → Prop
  | .one n => 0 < n ∧ n ≤ 6
  | .some n => 0 < n ∧ n ≤ 4
  | .num lo hi => -1000 ≤ lo ∧ lo ≤ hi ∧ hi ≤ 1000
def Kd.t : Kd → Nat
  | .one _ => 1
  | .some _ => 2
  | .num _ _ => 3
/-- a is an answer of k -/
def Ans : Kd → Val → Prop
  | .one n, a => ∃ i : Nat, i < n ∧ a = .int i
  | .some n, a => ∃ l : List Nat, l.Pairwise (· < ·) ∧ (∀ x ∈ l, x < n) ∧ a = .tup (l.map fun x => .int (x : Nat))
  | .num lo hi, a => ∃ i, lo ≤ i ∧ i ≤ hi ∧ a = .int i
/-- an answer of the sort t -/
def AnsS (t : Nat) (a : Val) : Prop := (t = 1 ∧ ∃ i : Nat, i < 64 ∧ a = .int i) ∨ (t = 2 ∧ ∃ l : List Nat, l.Nodup ∧ (∀ x ∈ l, x < 64) ∧ l.length ≤ 64 ∧ a = .tup (l.map fun x => .int (x : Nat))) ∨ (t = 3 ∧ ∃ i : Int, -1000 ≤ i ∧ i ≤ 1000 ∧ a = .int i)
theorem len_of_lt : ∀ {l : List Nat} {n : Nat}, l.Nodup → (∀ x ∈ l, x < n) → l.length ≤ n := fun {l n} h hs => by
  have := pigeon (ns := List.range n) h fun x hx => List.mem_range.mpr (hs x hx)
  simpa using this
theorem Ans.s {k : Kd} {a : Val} (hk : k.Ok) (h : Ans k a) : AnsS k.t a := by
  cases k with
  | one n => obtain ⟨i, h1, rfl⟩ := h; exact .inl ⟨rfl, i, by have := hk.2; omega, rfl⟩
  | some n =>
    obtain ⟨l, h1, h2, rfl⟩ := h
    have h3 := h1.imp (S := (· ≠ ·)) fun h => Nat.ne_of_lt h
    have h4 := len_of_lt h3 h2
    exact .inr (.inl ⟨rfl, l, h3, fun x hx => by have := h2 x hx; have := hk.2; omega, by have := hk.2; omega, rfl⟩)
  | num lo hi => obtain ⟨i, h1, h2, rfl⟩ := h; exact .inr (.inr ⟨rfl, i, by have := hk.1; omega, by have := hk.2.2; omega, rfl⟩)
theorem pf_nats {l : List Nat} (h : ∀ x ∈ l, x < 64) : PFs 0 (69 * l.length) (l.map fun x => Val.int (x : Nat)) := by
  have := PFs.of_all (k := 0) (w := 67) (vs := l.map fun x => Val.int (x : Nat)) fun v hv => by
    obtain ⟨x, hx, rfl⟩ := List.mem_map.mp hv
    exact PF.int (small63 (by omega) (by have := h x hx; omega))
  exact this.mono (Nat.le_refl _) (by simp)
theorem AnsS.pf {t : Nat} {a : Val} (h : AnsS t a) : PF 1 4500 a := by
  rcases h with ⟨_, i, h1, rfl⟩ | ⟨_, l, _, h2, h3, rfl⟩ | ⟨_, i, h1, h2, rfl⟩
  · exact (PF.int (small63 (by omega) (by omega))).mono (by decide) (by decide)
  · exact (PF.tup (pf_nats h2)).mono (by decide) (by omega)
  · exact (PF.int (small63 (by omega) (by omega))).mono (by decide) (by decide)
theorem kd_pf {k : Kd} (h : k.Ok) : PF 1 300 k.v := by
  have s1 : SOk 6 "one" := ⟨by decide +kernel, by decide +kernel⟩
  have s2 : SOk 6 "some" := ⟨by decide +kernel, by decide +kernel⟩
  have s3 : SOk 6 "number" := ⟨by decide +kernel, by decide +kernel⟩
  cases k with
  | one n => exact (PF.tup (PFs.cons (PF.str s1) (PFs.cons (PF.int (small63 (by omega) (by have := h.2; omega))) PFs.nil))).mono (by decide) (by decide)
  | some n => exact (PF.tup (PFs.cons (PF.str s2) (PFs.cons (PF.int (small63 (by omega) (by have := h.2; omega))) PFs.nil))).mono (by decide) (by decide)
  | num lo hi =>
    obtain ⟨h1, h2, h3⟩ := h
    exact (PF.tup (PFs.cons (PF.str s3) (PFs.cons (PF.int (small63 (by omega) (by omega))) (PFs.cons (PF.int (small63 (by omega) (by omega))) PFs.nil)))).mono (by decide) (by decide)
/-- the kinds of names -/
abbrev Ks := List (Str × Kd)
def kvs (ks : Ks) : List Val := ks.map fun p => .tup [.str p.1, p.2.v]
structure KsOk (ks : Ks) : Prop where
  nm : ∀ p ∈ ks, NmOk p.1
  nd : (ks.map (·.1)).Nodup
  kd : ∀ p ∈ ks, p.2.Ok
  len : ks.length ≤ 12
/-- the sort of a name -/
def T (ks : Ks) (x : Str) : Nat := match ks.find? (fun p => decide (p.1 = x)) with
  | some p => p.2.t
  | none => 0
theorem find_nd {α : Type} : ∀ {ks : List (Str × α)} {p : Str × α}, (ks.map (·.1)).Nodup → p ∈ ks → ks.find? (fun q => decide (q.1 = p.1)) = some p
  | q :: ks, p, nd, h => by
    rw [List.map_cons, List.nodup_cons] at nd
    rw [List.find?_cons]
    rcases List.mem_cons.mp h with rfl | h
    · simp
    · have hne : q.1 ≠ p.1 := fun z => nd.1 (z ▸ List.mem_map_of_mem h)
      simp [hne, find_nd nd.2 h]
theorem T_of {ks : Ks} (h : KsOk ks) {p : Str × Kd} (hp : p ∈ ks) : T ks p.1 = p.2.t := by
  unfold T
  rw [find_nd h.nd hp]
theorem kvs_pf {ks : Ks} (h : KsOk ks) : PFs 2 5000 (kvs ks) := by
  have := PFs.of_all (k := 2) (w := 391) (vs := kvs ks) fun v hv => by
    obtain ⟨p, hp, rfl⟩ := List.mem_map.mp hv
    exact (PF.tup (PFs.cons ((PF.s8 (h.nm p hp).sok).mono (k' := 1) (by decide) (Nat.le_refl _)) (PFs.cons (kd_pf (h.kd p hp)) PFs.nil))).mono (by decide) (by decide)
  have hl := h.len
  refine this.mono (Nat.le_refl _) ?_
  unfold kvs
  rw [List.length_map]
  omega

/-! ### sentences -/
mutual
inductive Sen where
  | given (x : Str)
  | is (x : Str) (k : Int)
  | has (x : Str) (k : Int)
  | least (b : Int) (ps : Prts) (bar : Int)
  | not (s : Sen)
  | all (ss : Sens)
  | any (ss : Sens)
inductive Sens where
  | nil
  | cons (s : Sen) (ss : Sens)
inductive Prt where
  | whr (s : Sen) (w : Int)
  | times (x : Str) (w : Int)
  | of (x : Str) (ws : List Int)
inductive Prts where
  | nil
  | cons (p : Prt) (ps : Prts)
end
mutual
def Sen.v : Sen → Val
  | .given x => .tup [.str "given", .str x]
  | .is x k => .tup [.str "is", .str x, .int k]
  | .has x k => .tup [.str "has", .str x, .int k]
  | .least b ps bar => .tup [.str "least", .tup [.int b, .tup ps.vs], .int bar]
  | .not s => .tup [.str "not", s.v]
  | .all ss => .tup [.str "all", .tup ss.vs]
  | .any ss => .tup [.str "any", .tup ss.vs]
def Sens.vs : Sens → List Val
  | .nil => []
  | .cons s ss => s.v :: ss.vs
def Prt.v : Prt → Val
  | .whr s w => .tup [.str "where", s.v, .int w]
  | .times x w => .tup [.str "times", .str x, .int w]
  | .of x ws => .tup [.str "of", .str x, .tup (ws.map .int)]
def Prts.vs : Prts → List Val
  | .nil => []
  | .cons p ps => p.v :: ps.vs
end
mutual
def Sen.Ok (T : Str → Nat) : Sen → Prop
  | .given _ => True
  | .is x k => T x = 1 ∧ -1000000 ≤ k ∧ k ≤ 1000000
  | .has x k => T x = 2 ∧ -1000000 ≤ k ∧ k ≤ 1000000
  | .least _ ps _ => ps.Ok T ∧ ps.vs.length < PySem.sizeLine
  | .not s => s.Ok T
  | .all ss => ss.Ok T ∧ ss.vs.length < PySem.sizeLine
  | .any ss => ss.Ok T ∧ ss.vs.length < PySem.sizeLine
def Sens.Ok (T : Str → Nat) : Sens → Prop
  | .nil => True
  | .cons s ss => s.Ok T ∧ ss.Ok T
def Prt.Ok (T : Str → Nat) : Prt → Prop
  | .whr s w => s.Ok T ∧ -1000000 ≤ w ∧ w ≤ 1000000
  | .times x w => T x = 3 ∧ -1000000 ≤ w ∧ w ≤ 1000000
  | .of x ws => ((T x = 1 ∨ T x = 2) ∧ ws.length ≤ 64) ∧ ∀ w ∈ ws, -1000000 ≤ w ∧ w ≤ 1000000
def Prts.Ok (T : Str → Nat) : Prts → Prop
  | .nil => True
  | .cons p ps => p.Ok T ∧ ps.Ok T
end
mutual
/-- how many calls within one another are_so makes -/
def Sen.need : Sen → Nat
  | .given _ => 1
  | .is _ _ => 1
  | .has _ _ => 1
  | .least _ ps _ => ps.need + 2
  | .not s => s.need + 1
  | .all ss => ss.need + 1
  | .any ss => ss.need + 1
def Sens.need : Sens → Nat
  | .nil => 0
  | .cons s ss => max s.need ss.need
def Prt.need : Prt → Nat
  | .whr s _ => s.need + 1
  | .times _ _ => 1
  | .of _ _ => 1
def Prts.need : Prts → Nat
  | .nil => 0
  | .cons p ps => max p.need ps.need
end
def Sens.app : Sens → Sen → Sens
  | .nil, t => .cons t .nil
  | .cons s ss, t => .cons s (ss.app t)
def Prts.app : Prts → Prt → Prts
  | .nil, t => .cons t .nil
  | .cons s ss, t => .cons s (ss.app t)
theorem Sens.app_vs : ∀ {ss : Sens} {s : Sen}, (ss.app s).vs = ss.vs ++ [s.v]
  | .nil, _ => rfl
  | .cons s ss, t => by show s.v :: (ss.app t).vs = _; rw [Sens.app_vs]; rfl
theorem Prts.app_vs : ∀ {ss : Prts} {s : Prt}, (ss.app s).vs = ss.vs ++ [s.v]
  | .nil, _ => rfl
  | .cons s ss, t => by show s.v :: (ss.app t).vs = _; rw [Prts.app_vs]; rfl
theorem Sens.app_ok {T : Str → Nat} : ∀ {ss : Sens} {s : Sen}, ss.Ok T → s.Ok T → (ss.app s).Ok T
  | .nil, _, _, h => ⟨h, trivial⟩
  | .cons s ss, t, h, k => ⟨h.1, Sens.app_ok h.2 k⟩
theorem Prts.app_ok {T : Str → Nat} : ∀ {ss : Prts} {s : Prt}, ss.Ok T → s.Ok T → (ss.app s).Ok T
  | .nil, _, _, h => ⟨h, trivial⟩
  | .cons s ss, t, h, k => ⟨h.1, Prts.app_ok h.2 k⟩
theorem Sens.app_need : ∀ {ss : Sens} {s : Sen} {n : Nat}, ss.need ≤ n → s.need ≤ n → (ss.app s).need ≤ n
  | .nil, _, n, _, h => by show max _ 0 ≤ n; omega
  | .cons s ss, t, n, h, k => by
    have h : max s.need ss.need ≤ n := h
    have := Sens.app_need (ss := ss) (s := t) (n := n) (by omega) k
    show max s.need (ss.app t).need ≤ n
    omega
theorem Prts.app_need : ∀ {ss : Prts} {s : Prt} {n : Nat}, ss.need ≤ n → s.need ≤ n → (ss.app s).need ≤ n
  | .nil, _, n, _, h => by show max _ 0 ≤ n; omega
  | .cons s ss, t, n, h, k => by
    have h : max s.need ss.need ≤ n := h
    have := Prts.app_need (ss := ss) (s := t) (n := n) (by omega) k
    show max s.need (ss.app t).need ≤ n
    omega
end G

end

section
set_option maxHeartbeats 1000000
set_option exponentiation.threshold 5000
/-! G2: kinds, answers, weights, parts, plain sentences are drawn. -/
namespace G
open Ev
open PySem (Str PyData)
section
variable {C : Ctx} {S : Sto} {Q : Val → Sto → Prop} {f B : Nat}
theorem kind_ok (hd : DrawC C) (fd : Feed f (B + 8) S) (q : ∀ k S', Kd.Ok k → Feed f B S' → Fr (At f) S S' → Q k.v S') : V (xSs C bKind (start 5 [.loc f])) S (ret Q) := by
  (repeat (first | refine St.go ?_ | refine R.eVar rfl ?_ | refine ⟨_, rfl, ?_⟩ | refine R.sAug rfl ?_ | refine R.vSliT rfl rfl ?_ | refine R.vIsiNo rfl ?_ | refine R.vIsiBl rfl ?_ | refine R.vIsiIn rfl ?_ | refine R.vIsiSt rfl ?_ | refine R.vIsiTu rfl ?_ | refine R.ssCons ?_ | refine R.ssNil ?_ | refine R.w_iteT ?_ | refine R.w_iteF ?_))
  refine hd fd (by decide) (by decide) fun way S1 _ _ fd1 fr1 => ?_
  (repeat (first | refine St.go ?_ | refine R.eVar rfl ?_ | refine ⟨_, rfl, ?_⟩ | refine R.sAug rfl ?_ | refine R.vSliT rfl rfl ?_ | refine R.vIsiNo rfl ?_ | refine R.vIsiBl rfl ?_ | refine R.vIsiIn rfl ?_ | refine R.vIsiSt rfl ?_ | refine R.vIsiTu rfl ?_ | refine R.ssCons ?_ | refine R.ssNil ?_ | refine R.w_iteT ?_ | refine R.w_iteF ?_))
  refine R.w_ite (fun _ => ?_) (fun _ => ?_)
  · (repeat (first | refine St.go ?_ | refine R.eVar rfl ?_ | refine ⟨_, rfl, ?_⟩ | refine R.sAug rfl ?_ | refine R.vSliT rfl rfl ?_ | refine R.vIsiNo rfl ?_ | refine R.vIsiBl rfl ?_ | refine R.vIsiIn rfl ?_ | refine R.vIsiSt rfl ?_ | refine R.vIsiTu rfl ?_ | refine R.ssCons ?_ | refine R.ssNil ?_ | refine R.w_iteT ?_ | refine R.w_iteF ?_))
    refine hd fd1 (by decide) (by decide) fun r S2 h0 h1 fd2 fr2 => ?_
    (repeat (first | refine St.go ?_ | refine R.eVar rfl ?_ | refine ⟨_, rfl, ?_⟩ | refine R.sAug rfl ?_ | refine R.vSliT rfl rfl ?_ | refine R.vIsiNo rfl ?_ | refine R.vIsiBl rfl ?_ | refine R.vIsiIn rfl ?_ | refine R.vIsiSt rfl ?_ | refine R.vIsiTu rfl ?_ | refine R.ssCons ?_ | refine R.ssNil ?_ | refine R.w_iteT ?_ | refine R.w_iteF ?_))
    have : Q (.tup [.str "one", .int ((1 + r).toNat : Nat)]) S2 := q (.one (1 + r).toNat) S2 ⟨by omega, by omega⟩ (fd2.mono (by omega)) (fr1.trans fr2)
    rwa [Int.toNat_of_nonneg (by omega)] at this
  (repeat (first | refine St.go ?_ | refine R.eVar rfl ?_ | refine ⟨_, rfl, ?_⟩ | refine R.sAug rfl ?_ | refine R.vSliT rfl rfl ?_ | refine R.vIsiNo rfl ?_ | refine R.vIsiBl rfl ?_ | refine R.vIsiIn rfl ?_ | refine R.vIsiSt rfl ?_ | refine R.vIsiTu rfl ?_ | refine R.ssCons ?_ | refine R.ssNil ?_ | refine R.w_iteT ?_ | refine R.w_iteF ?_))
  refine R.w_ite (fun _ => ?_) (fun _ => ?_)
  · (repeat (first | refine St.go ?_ | refine R.eVar rfl ?_ | refine ⟨_, rfl, ?_⟩ | refine R.sAug rfl ?_ | refine R.vSliT rfl rfl ?_ | refine R.vIsiNo rfl ?_ | refine R.vIsiBl rfl ?_ | refine R.vIsiIn rfl ?_ | refine R.vIsiSt rfl ?_ | refine R.vIsiTu rfl ?_ | refine R.ssCons ?_ | refine R.ssNil ?_ | refine R.w_iteT ?_ | refine R.w_iteF ?_))
    refine hd fd1 (by decide) (by decide) fun r S2 h0 h1 fd2 fr2 => ?_
    (repeat (first | refine St.go ?_ | refine R.eVar rfl ?_ | refine ⟨_, rfl, ?_⟩ | refine R.sAug rfl ?_ | refine R.vSliT rfl rfl ?_ | refine R.vIsiNo rfl ?_ | refine R.vIsiBl rfl ?_ | refine R.vIsiIn rfl ?_ | refine R.vIsiSt rfl ?_ | refine R.vIsiTu rfl ?_ | refine R.ssCons ?_ | refine R.ssNil ?_ | refine R.w_iteT ?_ | refine R.w_iteF ?_))
    have : Q (.tup [.str "some", .int ((1 + r).toNat : Nat)]) S2 := q (.some (1 + r).toNat) S2 ⟨by omega, by omega⟩ (fd2.mono (by omega)) (fr1.trans fr2)
    rwa [Int.toNat_of_nonneg (by omega)] at this
  (repeat (first | refine St.go ?_ | refine R.eVar rfl ?_ | refine ⟨_, rfl, ?_⟩ | refine R.sAug rfl ?_ | refine R.vSliT rfl rfl ?_ | refine R.vIsiNo rfl ?_ | refine R.vIsiBl rfl ?_ | refine R.vIsiIn rfl ?_ | refine R.vIsiSt rfl ?_ | refine R.vIsiTu rfl ?_ | refine R.ssCons ?_ | refine R.ssNil ?_ | refine R.w_iteT ?_ | refine R.w_iteF ?_))
  refine hd fd1 (by decide) (by decide) fun r S2 h0 h1 fd2 fr2 => ?_
  (repeat (first | refine St.go ?_ | refine R.eVar rfl ?_ | refine ⟨_, rfl, ?_⟩ | refine R.sAug rfl ?_ | refine R.vSliT rfl rfl ?_ | refine R.vIsiNo rfl ?_ | refine R.vIsiBl rfl ?_ | refine R.vIsiIn rfl ?_ | refine R.vIsiSt rfl ?_ | refine R.vIsiTu rfl ?_ | refine R.ssCons ?_ | refine R.ssNil ?_ | refine R.w_iteT ?_ | refine R.w_iteF ?_))
  refine R.w_mono (Q := fun v S' => Fr (At f) S2 S' ∧ Feed f (B + 5) S' ∧ ∃ lo : Int, v = .int lo ∧ -1000 ≤ lo ∧ lo ≤ 1000) ?_ ?_
  · refine R.w_ite (fun _ => ?_) (fun _ => ?_)
    · (repeat (first | refine St.go ?_ | refine R.eVar rfl ?_ | refine ⟨_, rfl, ?_⟩ | refine R.sAug rfl ?_ | refine R.vSliT rfl rfl ?_ | refine R.vIsiNo rfl ?_ | refine R.vIsiBl rfl ?_ | refine R.vIsiIn rfl ?_ | refine R.vIsiSt rfl ?_ | refine R.vIsiTu rfl ?_ | refine R.ssCons ?_ | refine R.ssNil ?_ | refine R.w_iteT ?_ | refine R.w_iteF ?_))
      refine hd fd2 (by decide) (by decide) fun r S3 h0 h1 fd3 fr3 => ?_
      (repeat (first | refine St.go ?_ | refine R.eVar rfl ?_ | refine ⟨_, rfl, ?_⟩ | refine R.sAug rfl ?_ | refine R.vSliT rfl rfl ?_ | refine R.vIsiNo rfl ?_ | refine R.vIsiBl rfl ?_ | refine R.vIsiIn rfl ?_ | refine R.vIsiSt rfl ?_ | refine R.vIsiTu rfl ?_ | refine R.ssCons ?_ | refine R.ssNil ?_ | refine R.w_iteT ?_ | refine R.w_iteF ?_))
      exact ⟨fr3, fd3, _, rfl, by omega, by omega⟩
    · (repeat (first | refine St.go ?_ | refine R.eVar rfl ?_ | refine ⟨_, rfl, ?_⟩ | refine R.sAug rfl ?_ | refine R.vSliT rfl rfl ?_ | refine R.vIsiNo rfl ?_ | refine R.vIsiBl rfl ?_ | refine R.vIsiIn rfl ?_ | refine R.vIsiSt rfl ?_ | refine R.vIsiTu rfl ?_ | refine R.ssCons ?_ | refine R.ssNil ?_ | refine R.w_iteT ?_ | refine R.w_iteF ?_))
      refine hd fd2 (by decide) (by decide) fun r S3 h0 h1 fd3 fr3 => ?_
      (repeat (first | refine St.go ?_ | refine R.eVar rfl ?_ | refine ⟨_, rfl, ?_⟩ | refine R.sAug rfl ?_ | refine R.vSliT rfl rfl ?_ | refine R.vIsiNo rfl ?_ | refine R.vIsiBl rfl ?_ | refine R.vIsiIn rfl ?_ | refine R.vIsiSt rfl ?_ | refine R.vIsiTu rfl ?_ | refine R.ssCons ?_ | refine R.ssNil ?_ | refine R.w_iteT ?_ | refine R.w_iteF ?_))
      exact ⟨fr3, fd3, _, rfl, by omega, by omega⟩
  rintro v S3 ⟨fr3, fd3, lo, rfl, l1, l2⟩
  (repeat (first | refine St.go ?_ | refine R.eVar rfl ?_ | refine ⟨_, rfl, ?_⟩ | refine R.sAug rfl ?_ | refine R.vSliT rfl rfl ?_ | refine R.vIsiNo rfl ?_ | refine R.vIsiBl rfl ?_ | refine R.vIsiIn rfl ?_ | refine R.vIsiSt rfl ?_ | refine R.vIsiTu rfl ?_ | refine R.ssCons ?_ | refine R.ssNil ?_ | refine R.w_iteT ?_ | refine R.w_iteF ?_))
  refine hd fd3 (by decide) (by decide) fun wide S4 w0 w1 fd4 fr4 => ?_
  have frA := fr1.trans (fr2.trans (fr3.trans fr4))
  (repeat (first | refine St.go ?_ | refine R.eVar rfl ?_ | refine ⟨_, rfl, ?_⟩ | refine R.sAug rfl ?_ | refine R.vSliT rfl rfl ?_ | refine R.vIsiNo rfl ?_ | refine R.vIsiBl rfl ?_ | refine R.vIsiIn rfl ?_ | refine R.vIsiSt rfl ?_ | refine R.vIsiTu rfl ?_ | refine R.ssCons ?_ | refine R.ssNil ?_ | refine R.w_iteT ?_ | refine R.w_iteF ?_))
  refine R.w_mono (Q := fun v S' => S' = S4 ∧ ∃ hi : Int, v = .int hi ∧ lo ≤ hi ∧ hi ≤ 1000) ?_ ?_
  · refine R.w_ite (fun _ => ?_) (fun _ => ?_)
    · (repeat (first | refine St.go ?_ | refine R.eVar rfl ?_ | refine ⟨_, rfl, ?_⟩ | refine R.sAug rfl ?_ | refine R.vSliT rfl rfl ?_ | refine R.vIsiNo rfl ?_ | refine R.vIsiBl rfl ?_ | refine R.vIsiIn rfl ?_ | refine R.vIsiSt rfl ?_ | refine R.vIsiTu rfl ?_ | refine R.ssCons ?_ | refine R.ssNil ?_ | refine R.w_iteT ?_ | refine R.w_iteF ?_))
      exact ⟨rfl, _, rfl, by omega, by omega⟩
    · (repeat (first | refine St.go ?_ | refine R.eVar rfl ?_ | refine ⟨_, rfl, ?_⟩ | refine R.sAug rfl ?_ | refine R.vSliT rfl rfl ?_ | refine R.vIsiNo rfl ?_ | refine R.vIsiBl rfl ?_ | refine R.vIsiIn rfl ?_ | refine R.vIsiSt rfl ?_ | refine R.vIsiTu rfl ?_ | refine R.ssCons ?_ | refine R.ssNil ?_ | refine R.w_iteT ?_ | refine R.w_iteF ?_))
      exact ⟨rfl, _, rfl, by omega, by omega⟩
  rintro v S' ⟨rfl, hi, rfl, g1, g2⟩
  (repeat (first | refine St.go ?_ | refine R.eVar rfl ?_ | refine ⟨_, rfl, ?_⟩ | refine R.sAug rfl ?_ | refine R.vSliT rfl rfl ?_ | refine R.vIsiNo rfl ?_ | refine R.vIsiBl rfl ?_ | refine R.vIsiIn rfl ?_ | refine R.vIsiSt rfl ?_ | refine R.vIsiTu rfl ?_ | refine R.ssCons ?_ | refine R.ssNil ?_ | refine R.w_iteT ?_ | refine R.w_iteF ?_))
  refine R.w_ite (fun _ => ?_) (fun _ => ?_)
  · (repeat (first | refine St.go ?_ | refine R.eVar rfl ?_ | refine ⟨_, rfl, ?_⟩ | refine R.sAug rfl ?_ | refine R.vSliT rfl rfl ?_ | refine R.vIsiNo rfl ?_ | refine R.vIsiBl rfl ?_ | refine R.vIsiIn rfl ?_ | refine R.vIsiSt rfl ?_ | refine R.vIsiTu rfl ?_ | refine R.ssCons ?_ | refine R.ssNil ?_ | refine R.w_iteT ?_ | refine R.w_iteF ?_))
    refine hd fd4 (by decide) (by decide) fun r S5 h0 h1 fd5 fr5 => ?_
    (repeat (first | refine St.go ?_ | refine R.eVar rfl ?_ | refine ⟨_, rfl, ?_⟩ | refine R.sAug rfl ?_ | refine R.vSliT rfl rfl ?_ | refine R.vIsiNo rfl ?_ | refine R.vIsiBl rfl ?_ | refine R.vIsiIn rfl ?_ | refine R.vIsiSt rfl ?_ | refine R.vIsiTu rfl ?_ | refine R.ssCons ?_ | refine R.ssNil ?_ | refine R.w_iteT ?_ | refine R.w_iteF ?_))
    exact q (.num lo _) S5 ⟨l1, by split <;> omega, by split <;> omega⟩ (fd5.mono (by omega)) (frA.trans fr5)
  · (repeat (first | refine St.go ?_ | refine R.eVar rfl ?_ | refine ⟨_, rfl, ?_⟩ | refine R.sAug rfl ?_ | refine R.vSliT rfl rfl ?_ | refine R.vIsiNo rfl ?_ | refine R.vIsiBl rfl ?_ | refine R.vIsiIn rfl ?_ | refine R.vIsiSt rfl ?_ | refine R.vIsiTu rfl ?_ | refine R.ssCons ?_ | refine R.ssNil ?_ | refine R.w_iteT ?_ | refine R.w_iteF ?_))
    exact q (.num lo hi) S' ⟨l1, g1, g2⟩ (fd4.mono (by omega)) frA
theorem reply_ok (hd : DrawC C) {k : Kd} (hk : k.Ok) (fd : Feed f (B + 6) S) (q : ∀ a S', Ans k a → Feed f B S' → Fr (At f) S S' → Q a S') : V (xSs C bReply (start 4 [.loc f, k.v])) S (ret Q) := by
  cases k with
  | one n =>
    obtain ⟨hn, hn2⟩ := hk
    unfold Kd.v
    (repeat (first | refine St.go ?_ | refine R.eVar rfl ?_ | refine ⟨_, rfl, ?_⟩ | refine R.sAug rfl ?_ | refine R.vSliT rfl rfl ?_ | refine R.vIsiNo rfl ?_ | refine R.vIsiBl rfl ?_ | refine R.vIsiIn rfl ?_ | refine R.vIsiSt rfl ?_ | refine R.vIsiTu rfl ?_ | refine R.ssCons ?_ | refine R.ssNil ?_ | refine R.w_iteT ?_ | refine R.w_iteF ?_))
    refine R.vIdxT rfl ?_
    (repeat (first | refine St.go ?_ | refine R.eVar rfl ?_ | refine ⟨_, rfl, ?_⟩ | refine R.sAug rfl ?_ | refine R.vSliT rfl rfl ?_ | refine R.vIsiNo rfl ?_ | refine R.vIsiBl rfl ?_ | refine R.vIsiIn rfl ?_ | refine R.vIsiSt rfl ?_ | refine R.vIsiTu rfl ?_ | refine R.ssCons ?_ | refine R.ssNil ?_ | refine R.w_iteT ?_ | refine R.w_iteF ?_))
    refine R.vIdxT rfl ?_
    (repeat (first | refine St.go ?_ | refine R.eVar rfl ?_ | refine ⟨_, rfl, ?_⟩ | refine R.sAug rfl ?_ | refine R.vSliT rfl rfl ?_ | refine R.vIsiNo rfl ?_ | refine R.vIsiBl rfl ?_ | refine R.vIsiIn rfl ?_ | refine R.vIsiSt rfl ?_ | refine R.vIsiTu rfl ?_ | refine R.ssCons ?_ | refine R.ssNil ?_ | refine R.w_iteT ?_ | refine R.w_iteF ?_))
    refine hd.d (fd.mono (B' := B + 1) (by omega)) (by omega) (by omega) fun r S2 h0 h1 fd2 fr2 => ?_
    (repeat (first | refine St.go ?_ | refine R.eVar rfl ?_ | refine ⟨_, rfl, ?_⟩ | refine R.sAug rfl ?_ | refine R.vSliT rfl rfl ?_ | refine R.vIsiNo rfl ?_ | refine R.vIsiBl rfl ?_ | refine R.vIsiIn rfl ?_ | refine R.vIsiSt rfl ?_ | refine R.vIsiTu rfl ?_ | refine R.ssCons ?_ | refine R.ssNil ?_ | refine R.w_iteT ?_ | refine R.w_iteF ?_))
    have := q (.int (r.toNat : Nat)) S2 ⟨r.toNat, by omega, rfl⟩ fd2 fr2
    rwa [Int.toNat_of_nonneg h0] at this
  | some n =>
    obtain ⟨hn, hn2⟩ := hk
    unfold Kd.v
    (repeat (first | refine St.go ?_ | refine R.eVar rfl ?_ | refine ⟨_, rfl, ?_⟩ | refine R.sAug rfl ?_ | refine R.vSliT rfl rfl ?_ | refine R.vIsiNo rfl ?_ | refine R.vIsiBl rfl ?_ | refine R.vIsiIn rfl ?_ | refine R.vIsiSt rfl ?_ | refine R.vIsiTu rfl ?_ | refine R.ssCons ?_ | refine R.ssNil ?_ | refine R.w_iteT ?_ | refine R.w_iteF ?_))
    refine R.vIdxT rfl ?_
    (repeat (first | refine St.go ?_ | refine R.eVar rfl ?_ | refine ⟨_, rfl, ?_⟩ | refine R.sAug rfl ?_ | refine R.vSliT rfl rfl ?_ | refine R.vIsiNo rfl ?_ | refine R.vIsiBl rfl ?_ | refine R.vIsiIn rfl ?_ | refine R.vIsiSt rfl ?_ | refine R.vIsiTu rfl ?_ | refine R.ssCons ?_ | refine R.ssNil ?_ | refine R.w_iteT ?_ | refine R.w_iteF ?_))
    refine R.vIdxT rfl ?_
    (repeat (first | refine St.go ?_ | refine R.eVar rfl ?_ | refine ⟨_, rfl, ?_⟩ | refine R.sAug rfl ?_ | refine R.vSliT rfl rfl ?_ | refine R.vIsiNo rfl ?_ | refine R.vIsiBl rfl ?_ | refine R.vIsiIn rfl ?_ | refine R.vIsiSt rfl ?_ | refine R.vIsiTu rfl ?_ | refine R.ssCons ?_ | refine R.ssNil ?_ | refine R.w_iteT ?_ | refine R.w_iteF ?_))
    refine R.vIdxT rfl ?_
    refine R.vRng (by omega) (by omega) ?_
    refine ⟨big (by simp; omega), ?_⟩
    refine R.w_com (I := fun j acc S' => j ≤ n ∧ Feed f (B + 6 - j) S' ∧ Fr (At f) S S' ∧ ∃ l : List Nat, acc = l.map (fun x => Val.int (x : Nat)) ∧ l.Pairwise (· < ·) ∧ ∀ x ∈ l, x < j) ?_ ?_ ⟨Nat.zero_le _, fd, Fr.refl, [], rfl, .nil, fun x h => nomatch h⟩
    · rintro j x acc S' hj ⟨h1, fd1, fr1, l, rfl, h2, h3⟩
      have hj2 : j < n := by
        have := (List.getElem?_eq_some_iff.mp hj).1
        simpa using this
      have hx : x = .int (j : Nat) := by
        rw [List.getElem?_map, List.getElem?_range (by simpa using hj2)] at hj
        exact (Option.some.inj hj).symm
      subst hx
      refine ⟨nh, R.tOne rfl ?_⟩
      have e9 : B + 6 - j = (B + 6 - (j + 1)) + 1 := by omega
      rw [e9] at fd1
      (repeat (first | refine St.go ?_ | refine R.eVar rfl ?_ | refine ⟨_, rfl, ?_⟩ | refine R.sAug rfl ?_ | refine R.vSliT rfl rfl ?_ | refine R.vIsiNo rfl ?_ | refine R.vIsiBl rfl ?_ | refine R.vIsiIn rfl ?_ | refine R.vIsiSt rfl ?_ | refine R.vIsiTu rfl ?_ | refine R.ssCons ?_ | refine R.ssNil ?_ | refine R.w_iteT ?_ | refine R.w_iteF ?_))
      refine hd fd1 (by decide) (by decide) fun r S2 h0 h1 fd2 fr2 => ?_
      (repeat (first | refine St.go ?_ | refine R.eVar rfl ?_ | refine ⟨_, rfl, ?_⟩ | refine R.sAug rfl ?_ | refine R.vSliT rfl rfl ?_ | refine R.vIsiNo rfl ?_ | refine R.vIsiBl rfl ?_ | refine R.vIsiIn rfl ?_ | refine R.vIsiSt rfl ?_ | refine R.vIsiTu rfl ?_ | refine R.ssCons ?_ | refine R.ssNil ?_ | refine R.w_iteT ?_ | refine R.w_iteF ?_))
      cases hr : decide (r = 1) with
      | true =>
        (repeat (first | refine St.go ?_ | refine R.eVar rfl ?_ | refine ⟨_, rfl, ?_⟩ | refine R.sAug rfl ?_ | refine R.vSliT rfl rfl ?_ | refine R.vIsiNo rfl ?_ | refine R.vIsiBl rfl ?_ | refine R.vIsiIn rfl ?_ | refine R.vIsiSt rfl ?_ | refine R.vIsiTu rfl ?_ | refine R.ssCons ?_ | refine R.ssNil ?_ | refine R.w_iteT ?_ | refine R.w_iteF ?_))
        refine ⟨hj2, fd2, fr1.trans fr2, l ++ [j], by simp, ?_, fun x hx => ?_⟩
        · rw [List.pairwise_append]
          exact ⟨h2, by simp, fun a ha b hb => by simp at hb; subst hb; exact h3 a ha⟩
        · rcases List.mem_append.mp hx with hx | hx
          · have := h3 x hx; omega
          · simp at hx; omega
      | false =>
        (repeat (first | refine St.go ?_ | refine R.eVar rfl ?_ | refine ⟨_, rfl, ?_⟩ | refine R.sAug rfl ?_ | refine R.vSliT rfl rfl ?_ | refine R.vIsiNo rfl ?_ | refine R.vIsiBl rfl ?_ | refine R.vIsiIn rfl ?_ | refine R.vIsiSt rfl ?_ | refine R.vIsiTu rfl ?_ | refine R.ssCons ?_ | refine R.ssNil ?_ | refine R.w_iteT ?_ | refine R.w_iteF ?_))
        exact ⟨hj2, fd2, fr1.trans fr2, l, rfl, h2, fun x hx => by have := h3 x hx; omega⟩
    · rintro acc S' ⟨h1, fd1, fr1, l, rfl, h2, h3⟩
      refine ⟨nh, ?_⟩
      (repeat (first | refine St.go ?_ | refine R.eVar rfl ?_ | refine ⟨_, rfl, ?_⟩ | refine R.sAug rfl ?_ | refine R.vSliT rfl rfl ?_ | refine R.vIsiNo rfl ?_ | refine R.vIsiBl rfl ?_ | refine R.vIsiIn rfl ?_ | refine R.vIsiSt rfl ?_ | refine R.vIsiTu rfl ?_ | refine R.ssCons ?_ | refine R.ssNil ?_ | refine R.w_iteT ?_ | refine R.w_iteF ?_))
      have hl : ((List.range ((n : Nat) : Int).toNat).map fun k => Val.int (k : Nat)).length = n := by simp
      exact q _ S' ⟨l, h2, fun x hx => by have := h3 x hx; rwa [hl] at this, rfl⟩ (fd1.mono (by rw [hl]; omega)) fr1
  | num lo hi =>
    obtain ⟨h1, h2, h3⟩ := hk
    unfold Kd.v
    (repeat (first | refine St.go ?_ | refine R.eVar rfl ?_ | refine ⟨_, rfl, ?_⟩ | refine R.sAug rfl ?_ | refine R.vSliT rfl rfl ?_ | refine R.vIsiNo rfl ?_ | refine R.vIsiBl rfl ?_ | refine R.vIsiIn rfl ?_ | refine R.vIsiSt rfl ?_ | refine R.vIsiTu rfl ?_ | refine R.ssCons ?_ | refine R.ssNil ?_ | refine R.w_iteT ?_ | refine R.w_iteF ?_))
    refine R.vIdxT rfl ?_
    (repeat (first | refine St.go ?_ | refine R.eVar rfl ?_ | refine ⟨_, rfl, ?_⟩ | refine R.sAug rfl ?_ | refine R.vSliT rfl rfl ?_ | refine R.vIsiNo rfl ?_ | refine R.vIsiBl rfl ?_ | refine R.vIsiIn rfl ?_ | refine R.vIsiSt rfl ?_ | refine R.vIsiTu rfl ?_ | refine R.ssCons ?_ | refine R.ssNil ?_ | refine R.w_iteT ?_ | refine R.w_iteF ?_))
    refine R.vIdxT rfl ?_
    (repeat (first | refine St.go ?_ | refine R.eVar rfl ?_ | refine ⟨_, rfl, ?_⟩ | refine R.sAug rfl ?_ | refine R.vSliT rfl rfl ?_ | refine R.vIsiNo rfl ?_ | refine R.vIsiBl rfl ?_ | refine R.vIsiIn rfl ?_ | refine R.vIsiSt rfl ?_ | refine R.vIsiTu rfl ?_ | refine R.ssCons ?_ | refine R.ssNil ?_ | refine R.w_iteT ?_ | refine R.w_iteF ?_))
    refine hd (B := B + 5) fd (by decide) (by decide) fun way S1 w0 w1 fd1 fr1 => ?_
    (repeat (first | refine St.go ?_ | refine R.eVar rfl ?_ | refine ⟨_, rfl, ?_⟩ | refine R.sAug rfl ?_ | refine R.vSliT rfl rfl ?_ | refine R.vIsiNo rfl ?_ | refine R.vIsiBl rfl ?_ | refine R.vIsiIn rfl ?_ | refine R.vIsiSt rfl ?_ | refine R.vIsiTu rfl ?_ | refine R.ssCons ?_ | refine R.ssNil ?_ | refine R.w_iteT ?_ | refine R.w_iteF ?_))
    refine R.w_ite (fun hw => ?_) (fun hw => ?_)
    · have hw := of_decide_eq_true hw
      (repeat (first | refine St.go ?_ | refine R.eVar rfl ?_ | refine ⟨_, rfl, ?_⟩ | refine R.sAug rfl ?_ | refine R.vSliT rfl rfl ?_ | refine R.vIsiNo rfl ?_ | refine R.vIsiBl rfl ?_ | refine R.vIsiIn rfl ?_ | refine R.vIsiSt rfl ?_ | refine R.vIsiTu rfl ?_ | refine R.ssCons ?_ | refine R.ssNil ?_ | refine R.w_iteT ?_ | refine R.w_iteF ?_))
      have : way = 0 ∨ way = 1 := by omega
      rcases this with rfl | rfl
      · refine R.vIdxT rfl ?_
        (repeat (first | refine St.go ?_ | refine R.eVar rfl ?_ | refine ⟨_, rfl, ?_⟩ | refine R.sAug rfl ?_ | refine R.vSliT rfl rfl ?_ | refine R.vIsiNo rfl ?_ | refine R.vIsiBl rfl ?_ | refine R.vIsiIn rfl ?_ | refine R.vIsiSt rfl ?_ | refine R.vIsiTu rfl ?_ | refine R.ssCons ?_ | refine R.ssNil ?_ | refine R.w_iteT ?_ | refine R.w_iteF ?_))
        exact q _ _ ⟨lo, by omega, by omega, rfl⟩ (fd1.mono (by omega)) fr1
      · refine R.vIdxT rfl ?_
        (repeat (first | refine St.go ?_ | refine R.eVar rfl ?_ | refine ⟨_, rfl, ?_⟩ | refine R.sAug rfl ?_ | refine R.vSliT rfl rfl ?_ | refine R.vIsiNo rfl ?_ | refine R.vIsiBl rfl ?_ | refine R.vIsiIn rfl ?_ | refine R.vIsiSt rfl ?_ | refine R.vIsiTu rfl ?_ | refine R.ssCons ?_ | refine R.ssNil ?_ | refine R.w_iteT ?_ | refine R.w_iteF ?_))
        exact q _ _ ⟨hi, by omega, by omega, rfl⟩ (fd1.mono (by omega)) fr1
    · (repeat (first | refine St.go ?_ | refine R.eVar rfl ?_ | refine ⟨_, rfl, ?_⟩ | refine R.sAug rfl ?_ | refine R.vSliT rfl rfl ?_ | refine R.vIsiNo rfl ?_ | refine R.vIsiBl rfl ?_ | refine R.vIsiIn rfl ?_ | refine R.vIsiSt rfl ?_ | refine R.vIsiTu rfl ?_ | refine R.ssCons ?_ | refine R.ssNil ?_ | refine R.w_iteT ?_ | refine R.w_iteF ?_))
      refine R.vIdxT rfl ?_
      (repeat (first | refine St.go ?_ | refine R.eVar rfl ?_ | refine ⟨_, rfl, ?_⟩ | refine R.sAug rfl ?_ | refine R.vSliT rfl rfl ?_ | refine R.vIsiNo rfl ?_ | refine R.vIsiBl rfl ?_ | refine R.vIsiIn rfl ?_ | refine R.vIsiSt rfl ?_ | refine R.vIsiTu rfl ?_ | refine R.ssCons ?_ | refine R.ssNil ?_ | refine R.w_iteT ?_ | refine R.w_iteF ?_))
      refine R.vIdxT rfl ?_
      (repeat (first | refine St.go ?_ | refine R.eVar rfl ?_ | refine ⟨_, rfl, ?_⟩ | refine R.sAug rfl ?_ | refine R.vSliT rfl rfl ?_ | refine R.vIsiNo rfl ?_ | refine R.vIsiBl rfl ?_ | refine R.vIsiIn rfl ?_ | refine R.vIsiSt rfl ?_ | refine R.vIsiTu rfl ?_ | refine R.ssCons ?_ | refine R.ssNil ?_ | refine R.w_iteT ?_ | refine R.w_iteF ?_))
      refine R.vIdxT rfl ?_
      (repeat (first | refine St.go ?_ | refine R.eVar rfl ?_ | refine ⟨_, rfl, ?_⟩ | refine R.sAug rfl ?_ | refine R.vSliT rfl rfl ?_ | refine R.vIsiNo rfl ?_ | refine R.vIsiBl rfl ?_ | refine R.vIsiIn rfl ?_ | refine R.vIsiSt rfl ?_ | refine R.vIsiTu rfl ?_ | refine R.ssCons ?_ | refine R.ssNil ?_ | refine R.w_iteT ?_ | refine R.w_iteF ?_))
      refine hd.d (B := B + 4) fd1 (by omega) (by omega) fun r S2 r0 r1 fd2 fr2 => ?_
      (repeat (first | refine St.go ?_ | refine R.eVar rfl ?_ | refine ⟨_, rfl, ?_⟩ | refine R.sAug rfl ?_ | refine R.vSliT rfl rfl ?_ | refine R.vIsiNo rfl ?_ | refine R.vIsiBl rfl ?_ | refine R.vIsiIn rfl ?_ | refine R.vIsiSt rfl ?_ | refine R.vIsiTu rfl ?_ | refine R.ssCons ?_ | refine R.ssNil ?_ | refine R.w_iteT ?_ | refine R.w_iteF ?_))
      exact q _ _ ⟨lo + r, by omega, by omega, rfl⟩ (fd2.mono (by omega)) (fr1.trans fr2)
theorem weight_ok (hd : DrawC C) (fd : Feed f (B + 2) S) (q : ∀ w S', -1000 ≤ w → w ≤ 1000 → Feed f B S' → Fr (At f) S S' → Q (.int w) S') : V (xSs C bWeight (start 1 [.loc f])) S (ret Q) := by
  (repeat (first | refine St.go ?_ | refine R.eVar rfl ?_ | refine ⟨_, rfl, ?_⟩ | refine R.sAug rfl ?_ | refine R.vSliT rfl rfl ?_ | refine R.vIsiNo rfl ?_ | refine R.vIsiBl rfl ?_ | refine R.vIsiIn rfl ?_ | refine R.vIsiSt rfl ?_ | refine R.vIsiTu rfl ?_ | refine R.ssCons ?_ | refine R.ssNil ?_ | refine R.w_iteT ?_ | refine R.w_iteF ?_))
  refine hd fd (by decide) (by decide) fun way S1 _ _ fd1 fr1 => ?_
  (repeat (first | refine St.go ?_ | refine R.eVar rfl ?_ | refine ⟨_, rfl, ?_⟩ | refine R.sAug rfl ?_ | refine R.vSliT rfl rfl ?_ | refine R.vIsiNo rfl ?_ | refine R.vIsiBl rfl ?_ | refine R.vIsiIn rfl ?_ | refine R.vIsiSt rfl ?_ | refine R.vIsiTu rfl ?_ | refine R.ssCons ?_ | refine R.ssNil ?_ | refine R.w_iteT ?_ | refine R.w_iteF ?_))
  refine R.w_ite (fun _ => ?_) (fun _ => ?_)
  · (repeat (first | refine St.go ?_ | refine R.eVar rfl ?_ | refine ⟨_, rfl, ?_⟩ | refine R.sAug rfl ?_ | refine R.vSliT rfl rfl ?_ | refine R.vIsiNo rfl ?_ | refine R.vIsiBl rfl ?_ | refine R.vIsiIn rfl ?_ | refine R.vIsiSt rfl ?_ | refine R.vIsiTu rfl ?_ | refine R.ssCons ?_ | refine R.ssNil ?_ | refine R.w_iteT ?_ | refine R.w_iteF ?_))
    refine hd fd1 (by decide) (by decide) fun r S2 h0 h1 fd2 fr2 => ?_
    (repeat (first | refine St.go ?_ | refine R.eVar rfl ?_ | refine ⟨_, rfl, ?_⟩ | refine R.sAug rfl ?_ | refine R.vSliT rfl rfl ?_ | refine R.vIsiNo rfl ?_ | refine R.vIsiBl rfl ?_ | refine R.vIsiIn rfl ?_ | refine R.vIsiSt rfl ?_ | refine R.vIsiTu rfl ?_ | refine R.ssCons ?_ | refine R.ssNil ?_ | refine R.w_iteT ?_ | refine R.w_iteF ?_))
    exact q _ _ (by omega) (by omega) fd2 (fr1.trans fr2)
  · (repeat (first | refine St.go ?_ | refine R.eVar rfl ?_ | refine ⟨_, rfl, ?_⟩ | refine R.sAug rfl ?_ | refine R.vSliT rfl rfl ?_ | refine R.vIsiNo rfl ?_ | refine R.vIsiBl rfl ?_ | refine R.vIsiIn rfl ?_ | refine R.vIsiSt rfl ?_ | refine R.vIsiTu rfl ?_ | refine R.ssCons ?_ | refine R.ssNil ?_ | refine R.w_iteT ?_ | refine R.w_iteF ?_))
    refine hd fd1 (by decide) (by decide) fun r S2 h0 h1 fd2 fr2 => ?_
    (repeat (first | refine St.go ?_ | refine R.eVar rfl ?_ | refine ⟨_, rfl, ?_⟩ | refine R.sAug rfl ?_ | refine R.vSliT rfl rfl ?_ | refine R.vIsiNo rfl ?_ | refine R.vIsiBl rfl ?_ | refine R.vIsiIn rfl ?_ | refine R.vIsiSt rfl ?_ | refine R.vIsiTu rfl ?_ | refine R.ssCons ?_ | refine R.ssNil ?_ | refine R.w_iteT ?_ | refine R.w_iteF ?_))
    exact q _ _ (by omega) (by omega) fd2 (fr1.trans fr2)
def WeightC (C : Ctx) : Prop := ∀ {f B : Nat} {S : Sto} {Q : Val → Sto → Prop}, Feed f (B + 2) S → (∀ w S', -1000 ≤ w → w ≤ 1000 → Feed f B S' → Fr (At f) S S' → Q (.int w) S') → V (C.call "_law_weight" [.loc f]) S Q
theorem pf_ints {l : List Int} (h : ∀ x ∈ l, -1000000 ≤ x ∧ x ≤ 1000000) : PFs 0 (69 * l.length) (l.map Val.int) := by
  have := PFs.of_all (k := 0) (w := 67) (vs := l.map Val.int) fun v hv => by
    obtain ⟨x, hx, rfl⟩ := List.mem_map.mp hv
    exact PF.int (small63 (h x hx).1 (h x hx).2)
  exact this.mono (Nat.le_refl _) (by simp)
/-- a part that is drawn: of times or of -/
theorem of_ok (hd : DrawC C) (hw : WeightC C) {k : Kd} {x : Str} (hk : k.Ok) (hx : NmOk x) (fd : Feed f (B + 20) S) (q : ∀ p S', ((k.t = 3 ∧ ∃ w, p = Prt.times x w ∧ -1000 ≤ w ∧ w ≤ 1000) ∨ (k.t ≠ 3 ∧ ∃ ws, p = Prt.of x ws ∧ ws.length ≤ 8 ∧ ∀ w ∈ ws, -1000 ≤ w ∧ w ≤ 1000)) → PF 2 800 p.v → Feed f B S' → Fr (At f) S S' → Q p.v S') : V (xSs C bOf (start 4 [.loc f, .str x, k.v])) S (ret Q) := by
  have ofc : k.t ≠ 3 → (∃ z : Str, ∃ r : List Val, k.v = .tup (.str z :: r) ∧ z ≠ "number") := fun h => by
    cases k with
    | one n => exact ⟨_, _, rfl, by decide +kernel⟩
    | some n => exact ⟨_, _, rfl, by decide +kernel⟩
    | num _ _ => exact absurd rfl h
  by_cases h3 : k.t = 3
  · cases k with
    | one n => cases h3
    | some n => cases h3
    | num lo hi =>
      unfold Kd.v
      (repeat (first | refine St.go ?_ | refine R.eVar rfl ?_ | refine ⟨_, rfl, ?_⟩ | refine R.sAug rfl ?_ | refine R.vSliT rfl rfl ?_ | refine R.vIsiNo rfl ?_ | refine R.vIsiBl rfl ?_ | refine R.vIsiIn rfl ?_ | refine R.vIsiSt rfl ?_ | refine R.vIsiTu rfl ?_ | refine R.ssCons ?_ | refine R.ssNil ?_ | refine R.w_iteT ?_ | refine R.w_iteF ?_))
      refine R.vIdxT rfl ?_
      (repeat (first | refine St.go ?_ | refine R.eVar rfl ?_ | refine ⟨_, rfl, ?_⟩ | refine R.sAug rfl ?_ | refine R.vSliT rfl rfl ?_ | refine R.vIsiNo rfl ?_ | refine R.vIsiBl rfl ?_ | refine R.vIsiIn rfl ?_ | refine R.vIsiSt rfl ?_ | refine R.vIsiTu rfl ?_ | refine R.ssCons ?_ | refine R.ssNil ?_ | refine R.w_iteT ?_ | refine R.w_iteF ?_))
      refine hw (B := B + 18) fd fun w S1 w0 w1 fd1 fr1 => ?_
      (repeat (first | refine St.go ?_ | refine R.eVar rfl ?_ | refine ⟨_, rfl, ?_⟩ | refine R.sAug rfl ?_ | refine R.vSliT rfl rfl ?_ | refine R.vIsiNo rfl ?_ | refine R.vIsiBl rfl ?_ | refine R.vIsiIn rfl ?_ | refine R.vIsiSt rfl ?_ | refine R.vIsiTu rfl ?_ | refine R.ssCons ?_ | refine R.ssNil ?_ | refine R.w_iteT ?_ | refine R.w_iteF ?_))
      exact q (.times x w) S1 (.inl ⟨rfl, w, rfl, w0, w1⟩) ((PF.tup (PFs.cons (PF.wd (by decide +kernel)) (PFs.cons (PF.s8 hx.sok) (PFs.cons (PF.int (small63 (by omega) (by omega))) PFs.nil)))).mono (by decide) (by decide)) (fd1.mono (by omega)) fr1
  · obtain ⟨z, r, e, hz⟩ := ofc h3
    rw [e]
    (repeat (first | refine St.go ?_ | refine R.eVar rfl ?_ | refine ⟨_, rfl, ?_⟩ | refine R.sAug rfl ?_ | refine R.vSliT rfl rfl ?_ | refine R.vIsiNo rfl ?_ | refine R.vIsiBl rfl ?_ | refine R.vIsiIn rfl ?_ | refine R.vIsiSt rfl ?_ | refine R.vIsiTu rfl ?_ | refine R.ssCons ?_ | refine R.ssNil ?_ | refine R.w_iteT ?_ | refine R.w_iteF ?_))
    refine R.vIdxT (atI_get (k := 0) rfl) ?_
    (repeat (first | refine St.go ?_ | refine R.eVar rfl ?_ | refine ⟨_, rfl, ?_⟩ | refine R.sAug rfl ?_ | refine R.vSliT rfl rfl ?_ | refine R.vIsiNo rfl ?_ | refine R.vIsiBl rfl ?_ | refine R.vIsiIn rfl ?_ | refine R.vIsiSt rfl ?_ | refine R.vIsiTu rfl ?_ | refine R.ssCons ?_ | refine R.ssNil ?_ | refine R.w_iteT ?_ | refine R.w_iteF ?_))
    have ez : decide (z = "number") = false := decide_eq_false hz
    rw [ez]
    (repeat (first | refine St.go ?_ | refine R.eVar rfl ?_ | refine ⟨_, rfl, ?_⟩ | refine R.sAug rfl ?_ | refine R.vSliT rfl rfl ?_ | refine R.vIsiNo rfl ?_ | refine R.vIsiBl rfl ?_ | refine R.vIsiIn rfl ?_ | refine R.vIsiSt rfl ?_ | refine R.vIsiTu rfl ?_ | refine R.ssCons ?_ | refine R.ssNil ?_ | refine R.w_iteT ?_ | refine R.w_iteF ?_))
    refine hd (B := B + 19) fd (by decide) (by decide) fun r S1 r0 r1 fd1 fr1 => ?_
    refine R.vRng r0 (by omega) ?_
    refine ⟨big (by simp; omega), ?_⟩
    refine R.w_com (I := fun j acc S' => j ≤ r.toNat ∧ Feed f (B + 19 - 2 * j) S' ∧ Fr (At f) S S' ∧ ∃ ws : List Int, acc = ws.map Val.int ∧ ws.length = j ∧ ∀ w ∈ ws, -1000 ≤ w ∧ w ≤ 1000) ?_ ?_ ⟨Nat.zero_le _, fd1, fr1, [], rfl, rfl, fun x h => nomatch h⟩
    · rintro j y acc S' hj ⟨h1, fd2, fr2, ws, rfl, h2, h3⟩
      have hj2 : j < r.toNat := by
        have := (List.getElem?_eq_some_iff.mp hj).1
        simpa using this
      refine ⟨nh, R.tOne rfl ?_⟩
      have e9 : B + 19 - 2 * j = (B + 19 - 2 * (j + 1)) + 2 := by omega
      rw [e9] at fd2
      (repeat (first | refine St.go ?_ | refine R.eVar rfl ?_ | refine ⟨_, rfl, ?_⟩ | refine R.sAug rfl ?_ | refine R.vSliT rfl rfl ?_ | refine R.vIsiNo rfl ?_ | refine R.vIsiBl rfl ?_ | refine R.vIsiIn rfl ?_ | refine R.vIsiSt rfl ?_ | refine R.vIsiTu rfl ?_ | refine R.ssCons ?_ | refine R.ssNil ?_ | refine R.w_iteT ?_ | refine R.w_iteF ?_))
      refine hw fd2 fun w S3 w0 w1 fd3 fr3 => ?_
      exact ⟨hj2, fd3, fr2.trans fr3, ws ++ [w], by simp, by simp [h2], fun u hu => by
        rcases List.mem_append.mp hu with hu | hu
        · exact h3 u hu
        · simp at hu; subst hu; exact ⟨w0, w1⟩⟩
    · rintro acc S' ⟨h1, fd2, fr2, ws, rfl, h2, h4⟩
      refine ⟨nh, ?_⟩
      have hl : ((List.range r.toNat).map fun k => Val.int (k : Nat)).length = r.toNat := by simp
      rw [hl] at h2 fd2
      (repeat (first | refine St.go ?_ | refine R.eVar rfl ?_ | refine ⟨_, rfl, ?_⟩ | refine R.sAug rfl ?_ | refine R.vSliT rfl rfl ?_ | refine R.vIsiNo rfl ?_ | refine R.vIsiBl rfl ?_ | refine R.vIsiIn rfl ?_ | refine R.vIsiSt rfl ?_ | refine R.vIsiTu rfl ?_ | refine R.ssCons ?_ | refine R.ssNil ?_ | refine R.w_iteT ?_ | refine R.w_iteF ?_))
      exact q (.of x ws) S' (.inr ⟨h3, ws, rfl, by omega, h4⟩) ((PF.tup (PFs.cons ((PF.wd (by decide +kernel)).mono (k' := 1) (by decide) (Nat.le_refl _)) (PFs.cons ((PF.s8 hx.sok).mono (by decide) (Nat.le_refl _)) (PFs.cons (PF.tup (pf_ints fun w hw => by have := h4 w hw; omega)) PFs.nil)))).mono (by decide) (by omega)) (fd2.mono (by omega)) fr2
end
end G

end

section
set_option maxHeartbeats 1000000
set_option exponentiation.threshold 5000
/-! G3: sentences and terms are drawn. -/
namespace G
open Ev
open PySem (Str PyData)
abbrev FR (f r : Nat) : Nat → Prop := fun i => i = f ∨ i = r
/-- feed, room and kinds as they stand while a sentence is drawn -/
structure GS (f B r kl : Nat) (ks : Ks) (S : Sto) : Prop where
  fd : Feed f B S
  rm : ∃ k : Int, S[r]? = some (.lst [.int k])
  kk : S[kl]? = some (.lst (kvs ks))
  ok : KsOk ks
  lt : f < r
  nf : kl ≠ f
  nr : kl ≠ r
section
variable {C : Ctx} {S S' : Sto} {Q : Val → Sto → Prop} {f B B' r kl : Nat} {ks : Ks}
theorem GS.step (g : GS f B r kl ks S) (fd : Feed f B' S') (fr : Fr (At f) S S') : GS f B' r kl ks S' := by
  obtain ⟨k, h⟩ := g.rm
  exact ⟨fd, ⟨k, fr.get h (fun z => by have := g.lt; have z : r = f := z; omega)⟩, fr.get g.kk (fun z => g.nf z), g.ok, g.lt, g.nf, g.nr⟩
theorem GS.grow (g : GS f B r kl ks S) (fr : Fr (fun _ => False) S S') : GS f B r kl ks S' := by
  obtain ⟨k, h⟩ := g.rm
  exact ⟨g.fd.grow fr, ⟨k, fr.get h id⟩, fr.get g.kk id, g.ok, g.lt, g.nf, g.nr⟩
theorem GS.mono (g : GS f B r kl ks S) (h : B' ≤ B) : GS f B' r kl ks S := ⟨g.fd.mono h, g.rm, g.kk, g.ok, g.lt, g.nf, g.nr⟩
theorem GS.room (g : GS f B r kl ks S) {k : Int} : GS f B r kl ks (S.set r (.lst [.int k])) := by
  obtain ⟨k0, h⟩ := g.rm
  have hl : r < S.length := (List.getElem?_eq_some_iff.mp h).1
  have fr : Fr (fun i => i = r) S (S.set r (.lst [.int k])) := Fr.set rfl
  exact ⟨g.fd.far fr g.lt, ⟨k, List.getElem?_set_self hl⟩, fr.get g.kk (fun z => g.nr z), g.ok, g.lt, g.nf, g.nr⟩
theorem fr1 (h : Fr (At f) S S') : Fr (FR f r) S S' := h.mono fun _ h => .inl h
theorem fr0 (h : Fr (fun _ => False) S S') : Fr (FR f r) S S' := h.mono fun _ h => h.elim
def OfC (C : Ctx) : Prop := ∀ {f B : Nat} {S : Sto} {Q : Val → Sto → Prop} {k : Kd} {x : Str}, k.Ok → NmOk x → Feed f (B + 20) S → (∀ p S', ((k.t = 3 ∧ ∃ w, p = Prt.times x w ∧ -1000 ≤ w ∧ w ≤ 1000) ∨ (k.t ≠ 3 ∧ ∃ ws, p = Prt.of x ws ∧ ws.length ≤ 8 ∧ ∀ w ∈ ws, -1000 ≤ w ∧ w ≤ 1000)) → PF 2 800 p.v → Feed f B S' → Fr (At f) S S' → Q p.v S') → V (C.call "_law_of" [.loc f, .str x, k.v]) S Q
def ReplyC (C : Ctx) : Prop := ∀ {f B : Nat} {S : Sto} {Q : Val → Sto → Prop} {k : Kd}, k.Ok → Feed f (B + 6) S → (∀ a S', Ans k a → Feed f B S' → Fr (At f) S S' → Q a S') → V (C.call "_law_reply" [.loc f, k.v]) S Q
theorem kd_shape (k : Kd) (hk : k.Ok) : ∃ (z : Str) (rest : List Val), k.v = .tup (.str z :: rest) ∧ (z = "number" ↔ k.t = 3) ∧ (z = "one" ↔ k.t = 1) ∧ (k.t ≠ 3 → (k.t = 1 ∨ k.t = 2) ∧ ∃ n : Nat, rest = [.int n] ∧ n ≤ 64) := by
  have a : ¬ (("one" : Str) = "number") := by decide +kernel
  have b : ¬ (("some" : Str) = "number") := by decide +kernel
  have c : ¬ (("some" : Str) = "one") := by decide +kernel
  have d : ¬ (("number" : Str) = "one") := by decide +kernel
  cases k with
  | one n => exact ⟨_, _, rfl, ⟨fun h => absurd h a, fun h => nomatch h⟩, ⟨fun _ => rfl, fun _ => rfl⟩, fun _ => ⟨.inl rfl, n, rfl, by have := hk.2; omega⟩⟩
  | some n => exact ⟨_, _, rfl, ⟨fun h => absurd h b, fun h => nomatch h⟩, ⟨fun h => absurd h c, fun h => nomatch h⟩, fun _ => ⟨.inr rfl, n, rfl, by have := hk.2; omega⟩⟩
  | num lo hi => exact ⟨_, _, rfl, ⟨fun _ => rfl, fun _ => rfl⟩, ⟨fun h => absurd h d, fun h => nomatch h⟩, fun h => absurd rfl h⟩
theorem at0 {x : Val} {xs : List Val} : L2.atI (x :: xs) 0 = some x := atI_get (k := 0) rfl
theorem given_pf {x : Str} (h : NmOk x) : PF 5 2000 (Sen.given x).v := (PF.tup (PFs.cons (PF.wd (by decide +kernel)) (PFs.cons (PF.s8 h.sok) PFs.nil))).mono (by decide) (by decide)
/-- a drawn pair of the kinds -/
theorem pick {i : Int} (ok : KsOk ks) (h0 : 0 ≤ i) (h1 : i < (kvs ks).length) : ∃ p ∈ ks, L2.atI (kvs ks) i = some (.tup [.str p.1, p.2.v]) := by
  obtain ⟨x, e1, e2⟩ := atI_in (xs := kvs ks) h0 h1
  unfold kvs at e2
  rw [List.getElem?_map] at e2
  cases e3 : ks[i.toNat]? with
  | none => rw [e3] at e2; cases e2
  | some p => rw [e3] at e2; cases e2; exact ⟨p, List.mem_of_getElem? e3, e1⟩
theorem plain_ok (hd : DrawC C) (hof : OfC C) (hrp : ReplyC C) (g : GS f (B + 60) r kl ks S) (q : ∀ s S', Sen.Ok (T ks) s → s.need ≤ 3 → PF 5 2000 s.v → GS f B r kl ks S' → Fr (FR f r) S S' → Q s.v S') : V (xSs C bPlain (start 9 [.loc f, .loc kl, .loc r])) S (ret Q) := by
  have ok := g.ok
  have kpf := kvs_pf ok
  (repeat (first | refine St.go ?_ | refine R.eVar rfl ?_ | refine ⟨_, rfl, ?_⟩ | refine R.sAug rfl ?_ | refine R.vSliT rfl rfl ?_ | refine R.vIsiNo rfl ?_ | refine R.vIsiBl rfl ?_ | refine R.vIsiIn rfl ?_ | refine R.vIsiSt rfl ?_ | refine R.vIsiTu rfl ?_ | refine R.ssCons ?_ | refine R.ssNil ?_ | refine R.w_iteT ?_ | refine R.w_iteF ?_))
  refine eqNilL g.kk (kpf.rd _ _) kpf.ft (by decide) ?_
  have g1 := g.grow (Fr.alloc (o := .lst []))
  have f1 : Fr (FR f r) S (S ++ [.lst []]) := Fr.alloc
  generalize S ++ [Ob.lst []] = S1 at g1 f1
  (repeat (first | refine St.go ?_ | refine R.eVar rfl ?_ | refine ⟨_, rfl, ?_⟩ | refine R.sAug rfl ?_ | refine R.vSliT rfl rfl ?_ | refine R.vIsiNo rfl ?_ | refine R.vIsiBl rfl ?_ | refine R.vIsiIn rfl ?_ | refine R.vIsiSt rfl ?_ | refine R.vIsiTu rfl ?_ | refine R.ssCons ?_ | refine R.ssNil ?_ | refine R.w_iteT ?_ | refine R.w_iteF ?_))
  refine R.w_ite (fun he => ?_) (fun he => ?_)
  · (repeat (first | refine St.go ?_ | refine R.eVar rfl ?_ | refine ⟨_, rfl, ?_⟩ | refine R.sAug rfl ?_ | refine R.vSliT rfl rfl ?_ | refine R.vIsiNo rfl ?_ | refine R.vIsiBl rfl ?_ | refine R.vIsiIn rfl ?_ | refine R.vIsiSt rfl ?_ | refine R.vIsiTu rfl ?_ | refine R.ssCons ?_ | refine R.ssNil ?_ | refine R.w_iteT ?_ | refine R.w_iteF ?_))
    refine hd (B := B + 59) g1.fd (by decide) (by decide) fun t S2 _ _ fd2 fr2 => ?_
    have g2 := g1.step (fd2.mono (B' := B) (by omega)) fr2
    (repeat (first | refine St.go ?_ | refine R.eVar rfl ?_ | refine ⟨_, rfl, ?_⟩ | refine R.sAug rfl ?_ | refine R.vSliT rfl rfl ?_ | refine R.vIsiNo rfl ?_ | refine R.vIsiBl rfl ?_ | refine R.vIsiIn rfl ?_ | refine R.vIsiSt rfl ?_ | refine R.vIsiTu rfl ?_ | refine R.ssCons ?_ | refine R.ssNil ?_ | refine R.w_iteT ?_ | refine R.w_iteF ?_))
    refine R.w_ite (fun _ => ?_) (fun _ => ?_)
    · (repeat (first | refine St.go ?_ | refine R.eVar rfl ?_ | refine ⟨_, rfl, ?_⟩ | refine R.sAug rfl ?_ | refine R.vSliT rfl rfl ?_ | refine R.vIsiNo rfl ?_ | refine R.vIsiBl rfl ?_ | refine R.vIsiIn rfl ?_ | refine R.vIsiSt rfl ?_ | refine R.vIsiTu rfl ?_ | refine R.ssCons ?_ | refine R.ssNil ?_ | refine R.w_iteT ?_ | refine R.w_iteF ?_))
      exact q (.any .nil) S2 ⟨trivial, by decide⟩ (by decide) ((PF.tup (PFs.cons ((PF.wd (by decide +kernel)).mono (k' := 1) (by decide) (Nat.le_refl _)) (PFs.cons (PF.tup PFs.nil) PFs.nil))).mono (by decide) (by decide)) g2 (f1.trans (G.fr1 fr2))
    · (repeat (first | refine St.go ?_ | refine R.eVar rfl ?_ | refine ⟨_, rfl, ?_⟩ | refine R.sAug rfl ?_ | refine R.vSliT rfl rfl ?_ | refine R.vIsiNo rfl ?_ | refine R.vIsiBl rfl ?_ | refine R.vIsiIn rfl ?_ | refine R.vIsiSt rfl ?_ | refine R.vIsiTu rfl ?_ | refine R.ssCons ?_ | refine R.ssNil ?_ | refine R.w_iteT ?_ | refine R.w_iteF ?_))
      exact q (.all .nil) S2 ⟨trivial, by decide⟩ (by decide) ((PF.tup (PFs.cons ((PF.wd (by decide +kernel)).mono (k' := 1) (by decide) (Nat.le_refl _)) (PFs.cons (PF.tup PFs.nil) PFs.nil))).mono (by decide) (by decide)) g2 (f1.trans (G.fr1 fr2))
  · have hpos : (0 : Int) < ((kvs ks).length : Nat) ∧ (((kvs ks).length : Nat) : Int) ≤ 1000000 := by
      have hl : (kvs ks).length ≤ 12 := by unfold kvs; rw [List.length_map]; exact ok.len
      cases hk : kvs ks with
      | nil => rw [hk] at he; cases he
      | cons a l => rw [hk] at hl; simp only [List.length_cons] at hl ⊢; omega
    (repeat (first | refine St.go ?_ | refine R.eVar rfl ?_ | refine ⟨_, rfl, ?_⟩ | refine R.sAug rfl ?_ | refine R.vSliT rfl rfl ?_ | refine R.vIsiNo rfl ?_ | refine R.vIsiBl rfl ?_ | refine R.vIsiIn rfl ?_ | refine R.vIsiSt rfl ?_ | refine R.vIsiTu rfl ?_ | refine R.ssCons ?_ | refine R.ssNil ?_ | refine R.w_iteT ?_ | refine R.w_iteF ?_))
    refine R.vLenL g1.kk ?_
    (repeat (first | refine St.go ?_ | refine R.eVar rfl ?_ | refine ⟨_, rfl, ?_⟩ | refine R.sAug rfl ?_ | refine R.vSliT rfl rfl ?_ | refine R.vIsiNo rfl ?_ | refine R.vIsiBl rfl ?_ | refine R.vIsiIn rfl ?_ | refine R.vIsiSt rfl ?_ | refine R.vIsiTu rfl ?_ | refine R.ssCons ?_ | refine R.ssNil ?_ | refine R.w_iteT ?_ | refine R.w_iteF ?_))
    refine hd.d (B := B + 59) g1.fd hpos.1 hpos.2 fun i S2 i0 i1 fd2 fr2 => ?_
    have g2 := g1.step fd2 fr2
    obtain ⟨⟨x, kd⟩, hp, e1⟩ := pick ok i0 i1
    have hx := ok.nm _ hp
    have hkd := ok.kd _ hp
    have hT := T_of ok hp
    dsimp only at hx hkd hT e1
    refine R.vIdxL g2.kk e1 ?_
    obtain ⟨z, rest, hv, z3, z1, hr⟩ := kd_shape kd hkd
    rw [hv]
    have fA := f1.trans (G.fr1 (r := r) fr2)
    (repeat (first | refine St.go ?_ | refine R.eVar rfl ?_ | refine ⟨_, rfl, ?_⟩ | refine R.sAug rfl ?_ | refine R.vSliT rfl rfl ?_ | refine R.vIsiNo rfl ?_ | refine R.vIsiBl rfl ?_ | refine R.vIsiIn rfl ?_ | refine R.vIsiSt rfl ?_ | refine R.vIsiTu rfl ?_ | refine R.ssCons ?_ | refine R.ssNil ?_ | refine R.w_iteT ?_ | refine R.w_iteF ?_))
    refine hd (B := B + 58) g2.fd (by decide) (by decide) fun way S3 w0 w1 fd3 fr3 => ?_
    have g3 := g2.step fd3 fr3
    have fB := fA.trans (G.fr1 (r := r) fr3)
    (repeat (first | refine St.go ?_ | refine R.eVar rfl ?_ | refine ⟨_, rfl, ?_⟩ | refine R.sAug rfl ?_ | refine R.vSliT rfl rfl ?_ | refine R.vIsiNo rfl ?_ | refine R.vIsiBl rfl ?_ | refine R.vIsiIn rfl ?_ | refine R.vIsiSt rfl ?_ | refine R.vIsiTu rfl ?_ | refine R.ssCons ?_ | refine R.ssNil ?_ | refine R.w_iteT ?_ | refine R.w_iteF ?_))
    refine R.w_mono (Q := fun t S' => S' = S3 ∧ (t = true → 0 < way → kd.t ≠ 3) ∧ (t = false → way ≠ 0)) ?_ ?_
    · refine R.w_ite (fun h => ?_) (fun h => ?_)
      · (repeat (first | refine St.go ?_ | refine R.eVar rfl ?_ | refine ⟨_, rfl, ?_⟩ | refine R.sAug rfl ?_ | refine R.vSliT rfl rfl ?_ | refine R.vIsiNo rfl ?_ | refine R.vIsiBl rfl ?_ | refine R.vIsiIn rfl ?_ | refine R.vIsiSt rfl ?_ | refine R.vIsiTu rfl ?_ | refine R.ssCons ?_ | refine R.ssNil ?_ | refine R.w_iteT ?_ | refine R.w_iteF ?_))
        have h := of_decide_eq_true h
        exact ⟨rfl, fun _ k => by omega, (fun z => nomatch z)⟩
      · have h := of_decide_eq_false h
        (repeat (first | refine St.go ?_ | refine R.eVar rfl ?_ | refine ⟨_, rfl, ?_⟩ | refine R.sAug rfl ?_ | refine R.vSliT rfl rfl ?_ | refine R.vIsiNo rfl ?_ | refine R.vIsiBl rfl ?_ | refine R.vIsiIn rfl ?_ | refine R.vIsiSt rfl ?_ | refine R.vIsiTu rfl ?_ | refine R.ssCons ?_ | refine R.ssNil ?_ | refine R.w_iteT ?_ | refine R.w_iteF ?_))
        refine R.w_ite (fun h2 => ?_) (fun h2 => ?_)
        · (repeat (first | refine St.go ?_ | refine R.eVar rfl ?_ | refine ⟨_, rfl, ?_⟩ | refine R.sAug rfl ?_ | refine R.vSliT rfl rfl ?_ | refine R.vIsiNo rfl ?_ | refine R.vIsiBl rfl ?_ | refine R.vIsiIn rfl ?_ | refine R.vIsiSt rfl ?_ | refine R.vIsiTu rfl ?_ | refine R.ssCons ?_ | refine R.ssNil ?_ | refine R.w_iteT ?_ | refine R.w_iteF ?_))
          refine R.vIdxT at0 ?_
          (repeat (first | refine St.go ?_ | refine R.eVar rfl ?_ | refine ⟨_, rfl, ?_⟩ | refine R.sAug rfl ?_ | refine R.vSliT rfl rfl ?_ | refine R.vIsiNo rfl ?_ | refine R.vIsiBl rfl ?_ | refine R.vIsiIn rfl ?_ | refine R.vIsiSt rfl ?_ | refine R.vIsiTu rfl ?_ | refine R.ssCons ?_ | refine R.ssNil ?_ | refine R.w_iteT ?_ | refine R.w_iteF ?_))
          refine ⟨rfl, fun h3 _ h4 => ?_, fun _ => h⟩
          rw [decide_eq_true (z3.mpr h4)] at h3
          cases h3
        · (repeat (first | refine St.go ?_ | refine R.eVar rfl ?_ | refine ⟨_, rfl, ?_⟩ | refine R.sAug rfl ?_ | refine R.vSliT rfl rfl ?_ | refine R.vIsiNo rfl ?_ | refine R.vIsiBl rfl ?_ | refine R.vIsiIn rfl ?_ | refine R.vIsiSt rfl ?_ | refine R.vIsiTu rfl ?_ | refine R.ssCons ?_ | refine R.ssNil ?_ | refine R.w_iteT ?_ | refine R.w_iteF ?_))
          exact ⟨rfl, (fun z => nomatch z), fun _ => h⟩
    rintro t S' ⟨rfl, ht1, ht2⟩
    have giv : Q (Sen.given x).v S' := q (.given x) S' trivial (show 1 ≤ 3 by decide) (given_pf hx) (g3.mono (by omega)) fB
    refine R.w_ite (fun ht => ?_) (fun ht => ?_)
    · (repeat (first | refine St.go ?_ | refine R.eVar rfl ?_ | refine ⟨_, rfl, ?_⟩ | refine R.sAug rfl ?_ | refine R.vSliT rfl rfl ?_ | refine R.vIsiNo rfl ?_ | refine R.vIsiBl rfl ?_ | refine R.vIsiIn rfl ?_ | refine R.vIsiSt rfl ?_ | refine R.vIsiTu rfl ?_ | refine R.ssCons ?_ | refine R.ssNil ?_ | refine R.w_iteT ?_ | refine R.w_iteF ?_))
      refine R.w_ite (fun hw => ?_) (fun hw => ?_)
      · have hw := of_decide_eq_true hw
        obtain ⟨h12, n, rfl, hn⟩ := hr (ht1 ht hw)
        (repeat (first | refine St.go ?_ | refine R.eVar rfl ?_ | refine ⟨_, rfl, ?_⟩ | refine R.sAug rfl ?_ | refine R.vSliT rfl rfl ?_ | refine R.vIsiNo rfl ?_ | refine R.vIsiBl rfl ?_ | refine R.vIsiIn rfl ?_ | refine R.vIsiSt rfl ?_ | refine R.vIsiTu rfl ?_ | refine R.ssCons ?_ | refine R.ssNil ?_ | refine R.w_iteT ?_ | refine R.w_iteF ?_))
        refine R.vIdxT at0 ?_
        (repeat (first | refine St.go ?_ | refine R.eVar rfl ?_ | refine ⟨_, rfl, ?_⟩ | refine R.sAug rfl ?_ | refine R.vSliT rfl rfl ?_ | refine R.vIsiNo rfl ?_ | refine R.vIsiBl rfl ?_ | refine R.vIsiIn rfl ?_ | refine R.vIsiSt rfl ?_ | refine R.vIsiTu rfl ?_ | refine R.ssCons ?_ | refine R.ssNil ?_ | refine R.w_iteT ?_ | refine R.w_iteF ?_))
        have wpf : ∀ w : Str, (PyData.strOk w && decide (w.length ≤ 8)) = true → ∀ j : Int, 0 ≤ j → j ≤ 100 → PF 5 2000 (.tup [.str w, .str x, .int j]) := fun w hw j j0 j1 => (PF.tup (PFs.cons (PF.wd hw) (PFs.cons (PF.s8 hx.sok) (PFs.cons (PF.int (small63 (by omega) (by omega))) PFs.nil)))).mono (by decide) (by decide)
        refine R.w_ite (fun hz => ?_) (fun hz => ?_)
        · (repeat (first | refine St.go ?_ | refine R.eVar rfl ?_ | refine ⟨_, rfl, ?_⟩ | refine R.sAug rfl ?_ | refine R.vSliT rfl rfl ?_ | refine R.vIsiNo rfl ?_ | refine R.vIsiBl rfl ?_ | refine R.vIsiIn rfl ?_ | refine R.vIsiSt rfl ?_ | refine R.vIsiTu rfl ?_ | refine R.ssCons ?_ | refine R.ssNil ?_ | refine R.w_iteT ?_ | refine R.w_iteF ?_))
          refine R.vIdxT rfl ?_
          (repeat (first | refine St.go ?_ | refine R.eVar rfl ?_ | refine ⟨_, rfl, ?_⟩ | refine R.sAug rfl ?_ | refine R.vSliT rfl rfl ?_ | refine R.vIsiNo rfl ?_ | refine R.vIsiBl rfl ?_ | refine R.vIsiIn rfl ?_ | refine R.vIsiSt rfl ?_ | refine R.vIsiTu rfl ?_ | refine R.ssCons ?_ | refine R.ssNil ?_ | refine R.w_iteT ?_ | refine R.w_iteF ?_))
          refine hd.d (B := B + 57) g3.fd (by omega) (by omega) fun j S4 j0 j1 fd4 fr4 => ?_
          (repeat (first | refine St.go ?_ | refine R.eVar rfl ?_ | refine ⟨_, rfl, ?_⟩ | refine R.sAug rfl ?_ | refine R.vSliT rfl rfl ?_ | refine R.vIsiNo rfl ?_ | refine R.vIsiBl rfl ?_ | refine R.vIsiIn rfl ?_ | refine R.vIsiSt rfl ?_ | refine R.vIsiTu rfl ?_ | refine R.ssCons ?_ | refine R.ssNil ?_ | refine R.w_iteT ?_ | refine R.w_iteF ?_))
          exact q (.is x j) S4 ⟨hT.trans (z1.mp (of_decide_eq_true hz)), by omega, by omega⟩ (show 1 ≤ 3 by decide) (wpf _ (by decide +kernel) j j0 (by omega)) ((g3.step fd4 fr4).mono (by omega)) (fB.trans (G.fr1 fr4))
        · (repeat (first | refine St.go ?_ | refine R.eVar rfl ?_ | refine ⟨_, rfl, ?_⟩ | refine R.sAug rfl ?_ | refine R.vSliT rfl rfl ?_ | refine R.vIsiNo rfl ?_ | refine R.vIsiBl rfl ?_ | refine R.vIsiIn rfl ?_ | refine R.vIsiSt rfl ?_ | refine R.vIsiTu rfl ?_ | refine R.ssCons ?_ | refine R.ssNil ?_ | refine R.w_iteT ?_ | refine R.w_iteF ?_))
          refine R.vIdxT rfl ?_
          (repeat (first | refine St.go ?_ | refine R.eVar rfl ?_ | refine ⟨_, rfl, ?_⟩ | refine R.sAug rfl ?_ | refine R.vSliT rfl rfl ?_ | refine R.vIsiNo rfl ?_ | refine R.vIsiBl rfl ?_ | refine R.vIsiIn rfl ?_ | refine R.vIsiSt rfl ?_ | refine R.vIsiTu rfl ?_ | refine R.ssCons ?_ | refine R.ssNil ?_ | refine R.w_iteT ?_ | refine R.w_iteF ?_))
          refine hd.d (B := B + 57) g3.fd (by omega) (by omega) fun j S4 j0 j1 fd4 fr4 => ?_
          (repeat (first | refine St.go ?_ | refine R.eVar rfl ?_ | refine ⟨_, rfl, ?_⟩ | refine R.sAug rfl ?_ | refine R.vSliT rfl rfl ?_ | refine R.vIsiNo rfl ?_ | refine R.vIsiBl rfl ?_ | refine R.vIsiIn rfl ?_ | refine R.vIsiSt rfl ?_ | refine R.vIsiTu rfl ?_ | refine R.ssCons ?_ | refine R.ssNil ?_ | refine R.w_iteT ?_ | refine R.w_iteF ?_))
          refine q (.has x j) S4 ⟨hT.trans ?_, by omega, by omega⟩ (show 1 ≤ 3 by decide) (wpf _ (by decide +kernel) j j0 (by omega)) ((g3.step fd4 fr4).mono (by omega)) (fB.trans (G.fr1 fr4))
          rcases h12 with h | h
          · exact absurd (z1.mpr h) (of_decide_eq_false hz)
          · exact h
      · (repeat (first | refine St.go ?_ | refine R.eVar rfl ?_ | refine ⟨_, rfl, ?_⟩ | refine R.sAug rfl ?_ | refine R.vSliT rfl rfl ?_ | refine R.vIsiNo rfl ?_ | refine R.vIsiBl rfl ?_ | refine R.vIsiIn rfl ?_ | refine R.vIsiSt rfl ?_ | refine R.vIsiTu rfl ?_ | refine R.ssCons ?_ | refine R.ssNil ?_ | refine R.w_iteT ?_ | refine R.w_iteF ?_))
        exact giv
    · (repeat (first | refine St.go ?_ | refine R.eVar rfl ?_ | refine ⟨_, rfl, ?_⟩ | refine R.sAug rfl ?_ | refine R.vSliT rfl rfl ?_ | refine R.vIsiNo rfl ?_ | refine R.vIsiBl rfl ?_ | refine R.vIsiIn rfl ?_ | refine R.vIsiSt rfl ?_ | refine R.vIsiTu rfl ?_ | refine R.ssCons ?_ | refine R.ssNil ?_ | refine R.w_iteT ?_ | refine R.w_iteF ?_))
      obtain ⟨room, hrm⟩ := g3.rm
      refine R.vIdxL hrm rfl ?_
      (repeat (first | refine St.go ?_ | refine R.eVar rfl ?_ | refine ⟨_, rfl, ?_⟩ | refine R.sAug rfl ?_ | refine R.vSliT rfl rfl ?_ | refine R.vIsiNo rfl ?_ | refine R.vIsiBl rfl ?_ | refine R.vIsiIn rfl ?_ | refine R.vIsiSt rfl ?_ | refine R.vIsiTu rfl ?_ | refine R.ssCons ?_ | refine R.ssNil ?_ | refine R.w_iteT ?_ | refine R.w_iteF ?_))
      refine R.w_ite (fun hw => ?_) (fun hw => ?_)
      · (repeat (first | refine St.go ?_ | refine R.eVar rfl ?_ | refine ⟨_, rfl, ?_⟩ | refine R.sAug rfl ?_ | refine R.vSliT rfl rfl ?_ | refine R.vIsiNo rfl ?_ | refine R.vIsiBl rfl ?_ | refine R.vIsiIn rfl ?_ | refine R.vIsiSt rfl ?_ | refine R.vIsiTu rfl ?_ | refine R.ssCons ?_ | refine R.ssNil ?_ | refine R.w_iteT ?_ | refine R.w_iteF ?_))
        exact giv
      · (repeat (first | refine St.go ?_ | refine R.eVar rfl ?_ | refine ⟨_, rfl, ?_⟩ | refine R.sAug rfl ?_ | refine R.vSliT rfl rfl ?_ | refine R.vIsiNo rfl ?_ | refine R.vIsiBl rfl ?_ | refine R.vIsiIn rfl ?_ | refine R.vIsiSt rfl ?_ | refine R.vIsiTu rfl ?_ | refine R.ssCons ?_ | refine R.ssNil ?_ | refine R.w_iteT ?_ | refine R.w_iteF ?_))
        refine R.vGetL hrm rfl ?_
        (repeat (first | refine St.go ?_ | refine R.eVar rfl ?_ | refine ⟨_, rfl, ?_⟩ | refine R.sAug rfl ?_ | refine R.vSliT rfl rfl ?_ | refine R.vIsiNo rfl ?_ | refine R.vIsiBl rfl ?_ | refine R.vIsiIn rfl ?_ | refine R.vIsiSt rfl ?_ | refine R.vIsiTu rfl ?_ | refine R.ssCons ?_ | refine R.ssNil ?_ | refine R.w_iteT ?_ | refine R.w_iteF ?_))
        refine R.vSetL hrm rfl ?_
        have g4 := g3.room (k := room - 1)
        have fC : Fr (FR f r) S (S'.set r (.lst [.int (room - 1)])) := fB.trans (Fr.set (.inr rfl))
        show aft C _ _ _ (S'.set r (.lst [.int (room - 1)]))
        generalize S'.set r (Ob.lst [.int (room - 1)]) = S4 at g4 fC
        (repeat (first | refine St.go ?_ | refine R.eVar rfl ?_ | refine ⟨_, rfl, ?_⟩ | refine R.sAug rfl ?_ | refine R.vSliT rfl rfl ?_ | refine R.vIsiNo rfl ?_ | refine R.vIsiBl rfl ?_ | refine R.vIsiIn rfl ?_ | refine R.vIsiSt rfl ?_ | refine R.vIsiTu rfl ?_ | refine R.ssCons ?_ | refine R.ssNil ?_ | refine R.w_iteT ?_ | refine R.w_iteF ?_))
        rw [← hv]
        refine hof (B := B + 38) hkd hx g4.fd fun p S5 hp2 ppf fd5 fr5 => ?_
        have g5 := g4.step fd5 fr5
        have fD := fC.trans (G.fr1 (r := r) fr5)
        rw [hv]
        (repeat (first | refine St.go ?_ | refine R.eVar rfl ?_ | refine ⟨_, rfl, ?_⟩ | refine R.sAug rfl ?_ | refine R.vSliT rfl rfl ?_ | refine R.vIsiNo rfl ?_ | refine R.vIsiBl rfl ?_ | refine R.vIsiIn rfl ?_ | refine R.vIsiSt rfl ?_ | refine R.vIsiTu rfl ?_ | refine R.ssCons ?_ | refine R.ssNil ?_ | refine R.w_iteT ?_ | refine R.w_iteF ?_))
        refine hd (B := B + 37) g5.fd (by decide) (by decide) fun b0 S6 _ _ fd6 fr6 => ?_
        have g6 := g5.step fd6 fr6
        have fE := fD.trans (G.fr1 (r := r) fr6)
        (repeat (first | refine St.go ?_ | refine R.eVar rfl ?_ | refine ⟨_, rfl, ?_⟩ | refine R.sAug rfl ?_ | refine R.vSliT rfl rfl ?_ | refine R.vIsiNo rfl ?_ | refine R.vIsiBl rfl ?_ | refine R.vIsiIn rfl ?_ | refine R.vIsiSt rfl ?_ | refine R.vIsiTu rfl ?_ | refine R.ssCons ?_ | refine R.ssNil ?_ | refine R.w_iteT ?_ | refine R.w_iteF ?_))
        refine hd (B := B + 36) g6.fd (by decide) (by decide) fun b1 S7 _ _ fd7 fr7 => ?_
        have g7 := g6.step fd7 fr7
        have fF := fE.trans (G.fr1 (r := r) fr7)
        (repeat (first | refine St.go ?_ | refine R.eVar rfl ?_ | refine ⟨_, rfl, ?_⟩ | refine R.sAug rfl ?_ | refine R.vSliT rfl rfl ?_ | refine R.vIsiNo rfl ?_ | refine R.vIsiBl rfl ?_ | refine R.vIsiIn rfl ?_ | refine R.vIsiSt rfl ?_ | refine R.vIsiTu rfl ?_ | refine R.ssCons ?_ | refine R.ssNil ?_ | refine R.w_iteT ?_ | refine R.w_iteF ?_))
        refine R.vIdxT at0 ?_
        (repeat (first | refine St.go ?_ | refine R.eVar rfl ?_ | refine ⟨_, rfl, ?_⟩ | refine R.sAug rfl ?_ | refine R.vSliT rfl rfl ?_ | refine R.vIsiNo rfl ?_ | refine R.vIsiBl rfl ?_ | refine R.vIsiIn rfl ?_ | refine R.vIsiSt rfl ?_ | refine R.vIsiTu rfl ?_ | refine R.ssCons ?_ | refine R.ssNil ?_ | refine R.w_iteT ?_ | refine R.w_iteF ?_))
        -- the bar
        refine R.w_mono (Q := fun fl S' => GS f B r kl ks S' ∧ Fr (FR f r) S S' ∧ ∃ bar : Int, fl = .nx [some (.loc f), some (.loc kl), some (.loc r), some (.str x), some (.tup (.str z :: rest)), some (.int way), some p.v, some (.int (b0 - 3)), some (.int bar)]) ?_ ?_
        · refine R.w_ite (fun hz => ?_) (fun hz => ?_)
          · have h3 := z3.mp (of_decide_eq_true hz)
            rcases hp2 with ⟨_, w, rfl, hw0, hw1⟩ | ⟨h, _⟩
            · unfold Prt.v
              (repeat (first | refine St.go ?_ | refine R.eVar rfl ?_ | refine ⟨_, rfl, ?_⟩ | refine R.sAug rfl ?_ | refine R.vSliT rfl rfl ?_ | refine R.vIsiNo rfl ?_ | refine R.vIsiBl rfl ?_ | refine R.vIsiIn rfl ?_ | refine R.vIsiSt rfl ?_ | refine R.vIsiTu rfl ?_ | refine R.ssCons ?_ | refine R.ssNil ?_ | refine R.w_iteT ?_ | refine R.w_iteF ?_))
              refine R.vIdxT rfl ?_
              (repeat (first | refine St.go ?_ | refine R.eVar rfl ?_ | refine ⟨_, rfl, ?_⟩ | refine R.sAug rfl ?_ | refine R.vSliT rfl rfl ?_ | refine R.vIsiNo rfl ?_ | refine R.vIsiBl rfl ?_ | refine R.vIsiIn rfl ?_ | refine R.vIsiSt rfl ?_ | refine R.vIsiTu rfl ?_ | refine R.ssCons ?_ | refine R.ssNil ?_ | refine R.w_iteT ?_ | refine R.w_iteF ?_))
              rw [← hv]
              refine hrp (B := B + 30) hkd g7.fd fun a S8 ha fd8 fr8 => ?_
              cases kd with
              | one n => cases h3
              | some n => cases h3
              | num lo hi =>
                obtain ⟨i, i0, i1, rfl⟩ := ha
                obtain ⟨hk1, hk2, hk3⟩ := hkd
                refine R.vMul (mulOk_of (small4 (by omega) (by omega)) (small4 (by omega) (by omega))) ?_
                rw [hv]
                (repeat (first | refine St.go ?_ | refine R.eVar rfl ?_ | refine ⟨_, rfl, ?_⟩ | refine R.sAug rfl ?_ | refine R.vSliT rfl rfl ?_ | refine R.vIsiNo rfl ?_ | refine R.vIsiBl rfl ?_ | refine R.vIsiIn rfl ?_ | refine R.vIsiSt rfl ?_ | refine R.vIsiTu rfl ?_ | refine R.ssCons ?_ | refine R.ssNil ?_ | refine R.w_iteT ?_ | refine R.w_iteF ?_))
                exact ⟨(g7.step fd8 fr8).mono (by omega), fF.trans (G.fr1 fr8), _, rfl⟩
            · exact absurd h3 h
          · have h3 : kd.t ≠ 3 := fun h => of_decide_eq_false hz (z3.mpr h)
            rcases hp2 with ⟨h, _⟩ | ⟨_, ws, rfl, hl, hws⟩
            · exact absurd h h3
            · have wpf : PF 1 600 (.tup (ws.map Val.int)) := (PF.tup (pf_ints fun w hw => by have := hws w hw; omega)).mono (by decide) (by omega)
              have npf : PF 1 3 (.tup []) := PF.tup PFs.nil
              unfold Prt.v
              (repeat (first | refine St.go ?_ | refine R.eVar rfl ?_ | refine ⟨_, rfl, ?_⟩ | refine R.sAug rfl ?_ | refine R.vSliT rfl rfl ?_ | refine R.vIsiNo rfl ?_ | refine R.vIsiBl rfl ?_ | refine R.vIsiIn rfl ?_ | refine R.vIsiSt rfl ?_ | refine R.vIsiTu rfl ?_ | refine R.ssCons ?_ | refine R.ssNil ?_ | refine R.w_iteT ?_ | refine R.w_iteF ?_))
              refine R.vIdxT rfl ?_
              (repeat (first | refine St.go ?_ | refine R.eVar rfl ?_ | refine ⟨_, rfl, ?_⟩ | refine R.sAug rfl ?_ | refine R.vSliT rfl rfl ?_ | refine R.vIsiNo rfl ?_ | refine R.vIsiBl rfl ?_ | refine R.vIsiIn rfl ?_ | refine R.vIsiSt rfl ?_ | refine R.vIsiTu rfl ?_ | refine R.ssCons ?_ | refine R.ssNil ?_ | refine R.w_iteT ?_ | refine R.w_iteF ?_))
              refine R.vNeD (wpf.rd (fun _ => False) _) (npf.rd (fun _ => False) _) wpf.ft npf.ft (by decide) (by decide) ?_
              have ee : PyData.eqv (dOf (.tup (ws.map Val.int))) (dOf (.tup [])) = ws.isEmpty := by
                cases ws <;> simp [dOf, dOfs, PyData.eqv, PyData.eqvAll]
              rw [ee]
              (repeat (first | refine St.go ?_ | refine R.eVar rfl ?_ | refine ⟨_, rfl, ?_⟩ | refine R.sAug rfl ?_ | refine R.vSliT rfl rfl ?_ | refine R.vIsiNo rfl ?_ | refine R.vIsiBl rfl ?_ | refine R.vIsiIn rfl ?_ | refine R.vIsiSt rfl ?_ | refine R.vIsiTu rfl ?_ | refine R.ssCons ?_ | refine R.ssNil ?_ | refine R.w_iteT ?_ | refine R.w_iteF ?_))
              refine R.w_ite (fun hne => ?_) (fun hne => ?_)
              · (repeat (first | refine St.go ?_ | refine R.eVar rfl ?_ | refine ⟨_, rfl, ?_⟩ | refine R.sAug rfl ?_ | refine R.vSliT rfl rfl ?_ | refine R.vIsiNo rfl ?_ | refine R.vIsiBl rfl ?_ | refine R.vIsiIn rfl ?_ | refine R.vIsiSt rfl ?_ | refine R.vIsiTu rfl ?_ | refine R.ssCons ?_ | refine R.ssNil ?_ | refine R.w_iteT ?_ | refine R.w_iteF ?_))
                refine R.vIdxT rfl ?_
                (repeat (first | refine St.go ?_ | refine R.eVar rfl ?_ | refine ⟨_, rfl, ?_⟩ | refine R.sAug rfl ?_ | refine R.vSliT rfl rfl ?_ | refine R.vIsiNo rfl ?_ | refine R.vIsiBl rfl ?_ | refine R.vIsiIn rfl ?_ | refine R.vIsiSt rfl ?_ | refine R.vIsiTu rfl ?_ | refine R.ssCons ?_ | refine R.ssNil ?_ | refine R.w_iteT ?_ | refine R.w_iteF ?_))
                refine R.vIdxT rfl ?_
                (repeat (first | refine St.go ?_ | refine R.eVar rfl ?_ | refine ⟨_, rfl, ?_⟩ | refine R.sAug rfl ?_ | refine R.vSliT rfl rfl ?_ | refine R.vIsiNo rfl ?_ | refine R.vIsiBl rfl ?_ | refine R.vIsiIn rfl ?_ | refine R.vIsiSt rfl ?_ | refine R.vIsiTu rfl ?_ | refine R.ssCons ?_ | refine R.ssNil ?_ | refine R.w_iteT ?_ | refine R.w_iteF ?_))
                have hwl : (0 : Int) < ((ws.map Val.int).length : Nat) ∧ (((ws.map Val.int).length : Nat) : Int) ≤ 1000000 := by
                  rw [List.length_map]
                  cases ws with
                  | nil => cases hne
                  | cons a l => simp only [List.length_cons] at hl ⊢; omega
                refine hd.d (B := B + 35) g7.fd hwl.1 hwl.2 fun j S8 j0 j1 fd8 fr8 => ?_
                obtain ⟨y, e5, e6⟩ := atI_in (xs := ws.map Val.int) j0 j1
                rw [List.getElem?_map] at e6
                cases e7 : ws[j.toNat]? with
                | none => rw [e7] at e6; cases e6
                | some w =>
                  rw [e7] at e6
                  cases e6
                  refine R.vIdxT e5 ?_
                  (repeat (first | refine St.go ?_ | refine R.eVar rfl ?_ | refine ⟨_, rfl, ?_⟩ | refine R.sAug rfl ?_ | refine R.vSliT rfl rfl ?_ | refine R.vIsiNo rfl ?_ | refine R.vIsiBl rfl ?_ | refine R.vIsiIn rfl ?_ | refine R.vIsiSt rfl ?_ | refine R.vIsiTu rfl ?_ | refine R.ssCons ?_ | refine R.ssNil ?_ | refine R.w_iteT ?_ | refine R.w_iteF ?_))
                  exact ⟨(g7.step fd8 fr8).mono (by omega), fF.trans (G.fr1 fr8), _, rfl⟩
              · (repeat (first | refine St.go ?_ | refine R.eVar rfl ?_ | refine ⟨_, rfl, ?_⟩ | refine R.sAug rfl ?_ | refine R.vSliT rfl rfl ?_ | refine R.vIsiNo rfl ?_ | refine R.vIsiBl rfl ?_ | refine R.vIsiIn rfl ?_ | refine R.vIsiSt rfl ?_ | refine R.vIsiTu rfl ?_ | refine R.ssCons ?_ | refine R.ssNil ?_ | refine R.w_iteT ?_ | refine R.w_iteF ?_))
                exact ⟨g7.mono (by omega), fF, _, rfl⟩
        rintro fl S8 ⟨g8, f8, bar, rfl⟩
        (repeat (first | refine St.go ?_ | refine R.eVar rfl ?_ | refine ⟨_, rfl, ?_⟩ | refine R.sAug rfl ?_ | refine R.vSliT rfl rfl ?_ | refine R.vIsiNo rfl ?_ | refine R.vIsiBl rfl ?_ | refine R.vIsiIn rfl ?_ | refine R.vIsiSt rfl ?_ | refine R.vIsiTu rfl ?_ | refine R.ssCons ?_ | refine R.ssNil ?_ | refine R.w_iteT ?_ | refine R.w_iteF ?_))
        refine R.vPow rfl ?_
        (repeat (first | refine St.go ?_ | refine R.eVar rfl ?_ | refine ⟨_, rfl, ?_⟩ | refine R.sAug rfl ?_ | refine R.vSliT rfl rfl ?_ | refine R.vIsiNo rfl ?_ | refine R.vIsiBl rfl ?_ | refine R.vIsiIn rfl ?_ | refine R.vIsiSt rfl ?_ | refine R.vIsiTu rfl ?_ | refine R.ssCons ?_ | refine R.ssNil ?_ | refine R.w_iteT ?_ | refine R.w_iteF ?_))
        refine R.vPow rfl ?_
        (repeat (first | refine St.go ?_ | refine R.eVar rfl ?_ | refine ⟨_, rfl, ?_⟩ | refine R.sAug rfl ?_ | refine R.vSliT rfl rfl ?_ | refine R.vIsiNo rfl ?_ | refine R.vIsiBl rfl ?_ | refine R.vIsiIn rfl ?_ | refine R.vIsiSt rfl ?_ | refine R.vIsiTu rfl ?_ | refine R.ssCons ?_ | refine R.ssNil ?_ | refine R.w_iteT ?_ | refine R.w_iteF ?_))
        have eb : ∀ u : Int, ∃ v : Int, u = v ∧ True := fun u => ⟨u, rfl, trivial⟩
        have ppOk : p.Ok (T ks) ∧ p.need ≤ 1 := by
          rcases hp2 with ⟨h, w, rfl, hw0, hw1⟩ | ⟨h, ws, rfl, hl, hws⟩
          · exact ⟨⟨hT.trans h, by omega, by omega⟩, by show 1 ≤ 1; omega⟩
          · refine ⟨⟨⟨?_, by omega⟩, fun w hw => by have := hws w hw; omega⟩, by show 1 ≤ 1; omega⟩
            rw [hT]
            exact (hr h).1
        refine q (.least (b0 - 3) (.cons p .nil) _) S8 ⟨⟨ppOk.1, trivial⟩, show 1 < PySem.sizeLine by decide⟩ (by show max p.need 0 + 2 ≤ 3; have := ppOk.2; omega) ?_ g8 f8
        refine (PF.tup (PFs.cons ((PF.wd (by decide +kernel)).mono (k' := 4) (by decide) (Nat.le_refl _)) (PFs.cons ((PF.tup (PFs.cons ((PF.int (i := b0 - 3) (small63 (by omega) (by omega))).mono (k' := 3) (by decide) (Nat.le_refl _)) (PFs.cons (PF.tup (PFs.cons ppf PFs.nil)) PFs.nil)))) (PFs.cons ((PF.int ?_).mono (by decide) (Nat.le_refl _)) PFs.nil)))).mono (by decide) (by decide)
        · have e6 : (10 : Int) ^ (6 : Int).toNat = 1000000 := by decide
          rw [e6]
          apply small63
          · split <;> split <;> omega
          · split <;> split <;> omega
end
end G

end

section
set_option maxHeartbeats 1000000
set_option exponentiation.threshold 5000
/-! G4: terms, sentences. -/
namespace G
open Ev
open PySem (Str PyData)
def SB : Nat → Nat
  | 0 => 61
  | d + 1 => 3 * SB d + 200
def SW : Nat → Nat
  | 0 => 2000
  | d + 1 => 3 * SW d + 2000
theorem SB_ge : ∀ d, 61 ≤ SB d
  | 0 => Nat.le_refl _
  | d + 1 => by unfold SB; omega
theorem SW_ge : ∀ d, 2000 ≤ SW d
  | 0 => Nat.le_refl _
  | d + 1 => by unfold SW; omega
def PlainC (C : Ctx) : Prop := ∀ {f B r kl : Nat} {ks : Ks} {S : Sto} {Q : Val → Sto → Prop}, GS f (B + 60) r kl ks S → (∀ s S', Sen.Ok (T ks) s → s.need ≤ 3 → PF 5 2000 s.v → GS f B r kl ks S' → Fr (FR f r) S S' → Q s.v S') → V (C.call "_law_plain" [.loc f, .loc kl, .loc r]) S Q
def SenC (C : Ctx) (d : Nat) : Prop := ∀ {f B r kl : Nat} {ks : Ks} {S : Sto} {Q : Val → Sto → Prop}, GS f (B + SB d) r kl ks S → (∀ s S', Sen.Ok (T ks) s → s.need ≤ 3 * d + 3 → PF (5 + 4 * d) (SW d) s.v → GS f B r kl ks S' → Fr (FR f r) S S' → Q s.v S') → V (C.call "_law_sentence" [.loc f, .loc kl, .int (d : Nat), .loc r]) S Q
def TermC (C : Ctx) (d : Nat) : Prop := ∀ {f B r kl : Nat} {ks : Ks} {S : Sto} {Q : Val → Sto → Prop}, GS f (B + (3 * SB d + 95)) r kl ks S → (∀ b ps S', Prts.Ok (T ks) ps → ps.vs.length < PySem.sizeLine → ps.need ≤ 3 * d + 4 → PF (8 + 4 * d) (3 * SW d + 600) (.tup [.int b, .tup ps.vs]) → -10 ≤ b → b ≤ 10 → GS f B r kl ks S' → Fr (FR f r) S S' → Q (.tup [.int b, .tup ps.vs]) S') → V (C.call "_law_term" [.loc f, .loc kl, .int (d : Nat), .loc r]) S Q
section
variable {C : Ctx} {S S' : Sto} {Q : Val → Sto → Prop} {f B B' r kl : Nat} {ks : Ks}
theorem GS.put (g : GS f B r kl ks S) {b : Nat} {o : Ob} (h1 : f < b) (h2 : b ≠ r) (h3 : b ≠ kl) : GS f B r kl ks (S.set b o) := by
  have fr : Fr (fun i => i = b) S (S.set b o) := Fr.set rfl
  obtain ⟨k, h⟩ := g.rm
  exact ⟨g.fd.far fr h1, ⟨k, fr.get h (fun z => h2 z.symm)⟩, fr.get g.kk (fun z => h3 z.symm), g.ok, g.lt, g.nf, g.nr⟩
theorem GS.lens (g : GS f B r kl ks S) : f < S.length ∧ r < S.length ∧ kl < S.length := by
  obtain ⟨k, h⟩ := g.rm
  have := (List.getElem?_eq_some_iff.mp h).1
  exact ⟨by have := g.lt; omega, this, (List.getElem?_eq_some_iff.mp g.kk).1⟩
theorem frNew {X : Nat → Prop} {S0 : Sto} {b : Nat} {o : Ob} (fr : Fr X S0 S) (hb : S0.length ≤ b) : Fr X S0 (S.set b o) := ⟨by simpa using fr.len, fun i hi n => by rw [List.getElem?_set_ne (by omega)]; exact fr.keep i hi n⟩
theorem ksEmpty : (kvs ks).isEmpty = ks.isEmpty := by unfold kvs; cases ks <;> rfl
theorem neNilL {ns : List Val} {ds : List PyData} {g : Nat} {k w b : Nat} (hg : S[g]? = some (.lst ns)) (r : RdL (fun _ => False) S ns ds) (ft : Fits k w b ds) (hk : k ≤ 60) (q : Q (.bl (!ns.isEmpty)) (S ++ [.lst []])) : V (pCmp .NotEq (.loc g) (.loc S.length)) (S ++ [.lst []]) Q := by
  refine R.vNeD (X := fun _ => False) (Y := fun _ => False) (.lst ((Fr.alloc (X := fun _ => False)).get hg id) id (RdL.fr Fr.alloc r)) (.lst (by simp) id .nil) (Fit.lst ft) (Fit.lst (Fits.nil (k := 0) (w := 0) (b := 0))) (by omega) (by decide) ?_
  have e : PyData.eqv (.list ds) (.list []) = ns.isEmpty := by
    have := r.length
    cases ns <;> cases ds <;> first | rfl | (simp at this) | simp [PyData.eqv, PyData.eqvAll]
  rw [e]
  exact q
theorem fits_len : ∀ {ds : List PyData} {k w b : Nat}, Fits k w b ds → 2 * ds.length ≤ w
  | [], _, _, _, _ => Nat.zero_le _
  | d :: ds, k, w, b, h => by
    obtain ⟨w1, w2, e, _, h2⟩ := h.unc
    have := fits_len h2
    simp only [List.length_cons]
    omega
theorem pfs_lt {k w : Nat} {vs : List Val} (h : PFs k w vs) (hw : w ≤ 20000000) : vs.length < PySem.sizeLine := by
  have h1 := fits_len h.ft
  have h2 := (h.rd (fun _ => False) []).length
  have h3 : PySem.sizeLine = 16777216 := by decide
  omega
theorem term_ok {d : Nat} (hdw : SW d ≤ 5000000) (hd : DrawC C) (hof : OfC C) (hw : WeightC C) (hs : SenC C d) (g : GS f (B + (3 * SB d + 95)) r kl ks S) (q : ∀ b ps S', Prts.Ok (T ks) ps → ps.vs.length < PySem.sizeLine → ps.need ≤ 3 * d + 4 → PF (8 + 4 * d) (3 * SW d + 600) (.tup [.int b, .tup ps.vs]) → -10 ≤ b → b ≤ 10 → GS f B r kl ks S' → Fr (FR f r) S S' → Q (.tup [.int b, .tup ps.vs]) S') : V (xSs C bTerm (start 8 [.loc f, .loc kl, .int (d : Nat), .loc r])) S (ret Q) := by
  have ok := g.ok
  have kpf := kvs_pf ok
  have swg := SW_ge d
  obtain ⟨lf, lr, lk⟩ := g.lens
  (repeat (first | refine St.go ?_ | refine R.eVar rfl ?_ | refine ⟨_, rfl, ?_⟩ | refine R.sAug rfl ?_ | refine R.vSliT rfl rfl ?_ | refine R.vIsiNo rfl ?_ | refine R.vIsiBl rfl ?_ | refine R.vIsiIn rfl ?_ | refine R.vIsiSt rfl ?_ | refine R.vIsiTu rfl ?_ | refine R.ssCons ?_ | refine R.ssNil ?_ | refine R.w_iteT ?_ | refine R.w_iteF ?_))
  have g1 := g.grow (Fr.alloc (o := .lst []))
  have f1 : Fr (FR f r) S (S ++ [.lst []]) := Fr.alloc
  have hb1 : (S ++ [Ob.lst []])[S.length]? = some (.lst []) := by simp
  generalize S ++ [Ob.lst []] = S1 at g1 f1 hb1
  refine hd (B := B + (3 * SB d + 94)) g1.fd (by decide) (by decide) fun n S2 n0 n1 fd2 fr2 => ?_
  have g2 := g1.step fd2 fr2
  have hb2 := fr2.get hb1 (fun z => by have z : S.length = f := z; omega)
  refine R.vRng n0 (by omega) ?_
  refine R.w_for (I := fun k ρ S' => k ≤ n.toNat ∧ GS f (B + 1 + (3 - k) * (SB d + 30)) r kl ks S' ∧ Fr (FR f r) S S' ∧ ∃ ps : Prts, S'[S.length]? = some (.lst ps.vs) ∧ ps.Ok (T ks) ∧ ps.need ≤ 3 * d + 4 ∧ PFs (6 + 4 * d) (k * (SW d + 160)) ps.vs ∧ ∃ o5 o6 o7, ρ = [some (.loc f), some (.loc kl), some (.int (d : Nat)), some (.loc r), some (.loc S.length), o5, o6, o7]) ?_ ?_
    ⟨Nat.zero_le _, g2.mono (by omega), f1.trans (G.fr1 fr2), .nil, hb2, trivial, Nat.zero_le _, PFs.nil.mono (Nat.le_refl _) (by omega), _, _, _, rfl⟩
  · rintro k x ρ S' hk ⟨hk1, g3, f3, ps, hb3, pok, pn, ppf, o5, o6, o7, rfl⟩
    have hk2 : k < n.toNat := by
      have := (List.getElem?_eq_some_iff.mp hk).1
      simpa using this
    have budget : B + 1 + (3 - k) * (SB d + 30) = B + 1 + (3 - (k + 1)) * (SB d + 30) + (SB d + 30) := by
      have : 3 - k = (3 - (k + 1)) + 1 := by omega
      rw [this, Nat.add_mul]
      omega
    rw [budget] at g3
    have wstep : k * (SW d + 160) + (SW d + 160) = (k + 1) * (SW d + 160) := by rw [Nat.add_mul]; omega
    refine ⟨nh, _, rfl, ?_⟩
    obtain ⟨rm, hrm⟩ := g3.rm
    (repeat (first | refine St.go ?_ | refine R.eVar rfl ?_ | refine ⟨_, rfl, ?_⟩ | refine R.sAug rfl ?_ | refine R.vSliT rfl rfl ?_ | refine R.vIsiNo rfl ?_ | refine R.vIsiBl rfl ?_ | refine R.vIsiIn rfl ?_ | refine R.vIsiSt rfl ?_ | refine R.vIsiTu rfl ?_ | refine R.ssCons ?_ | refine R.ssNil ?_ | refine R.w_iteT ?_ | refine R.w_iteF ?_))
    refine R.vIdxL hrm rfl ?_
    (repeat (first | refine St.go ?_ | refine R.eVar rfl ?_ | refine ⟨_, rfl, ?_⟩ | refine R.sAug rfl ?_ | refine R.vSliT rfl rfl ?_ | refine R.vIsiNo rfl ?_ | refine R.vIsiBl rfl ?_ | refine R.vIsiIn rfl ?_ | refine R.vIsiSt rfl ?_ | refine R.vIsiTu rfl ?_ | refine R.ssCons ?_ | refine R.ssNil ?_ | refine R.w_iteT ?_ | refine R.w_iteF ?_))
    -- the first test
    refine R.w_mono (Q := fun t S4 => GS f (B + 1 + (3 - (k + 1)) * (SB d + 30) + (SB d + 29)) r kl ks S4 ∧ Fr (FR f r) S S4 ∧ S4[S.length]? = some (.lst ps.vs)) ?_ ?_
    · refine R.w_ite (fun _ => ?_) (fun _ => ?_)
      · (repeat (first | refine St.go ?_ | refine R.eVar rfl ?_ | refine ⟨_, rfl, ?_⟩ | refine R.sAug rfl ?_ | refine R.vSliT rfl rfl ?_ | refine R.vIsiNo rfl ?_ | refine R.vIsiBl rfl ?_ | refine R.vIsiIn rfl ?_ | refine R.vIsiSt rfl ?_ | refine R.vIsiTu rfl ?_ | refine R.ssCons ?_ | refine R.ssNil ?_ | refine R.w_iteT ?_ | refine R.w_iteF ?_))
        refine R.w_ite (fun _ => ?_) (fun _ => ?_)
        · (repeat (first | refine St.go ?_ | refine R.eVar rfl ?_ | refine ⟨_, rfl, ?_⟩ | refine R.sAug rfl ?_ | refine R.vSliT rfl rfl ?_ | refine R.vIsiNo rfl ?_ | refine R.vIsiBl rfl ?_ | refine R.vIsiIn rfl ?_ | refine R.vIsiSt rfl ?_ | refine R.vIsiTu rfl ?_ | refine R.ssCons ?_ | refine R.ssNil ?_ | refine R.w_iteT ?_ | refine R.w_iteF ?_))
          refine eqNilL g3.kk (kpf.rd _ _) kpf.ft (by decide) ?_
          have g4 := g3.grow (Fr.alloc (o := .lst []))
          have f4 : Fr (FR f r) S (S' ++ [.lst []]) := f3.trans Fr.alloc
          have hb4 := (Fr.alloc (o := .lst []) (X := fun _ => False)).get hb3 id
          generalize S' ++ [Ob.lst []] = S4 at g4 f4 hb4
          (repeat (first | refine St.go ?_ | refine R.eVar rfl ?_ | refine ⟨_, rfl, ?_⟩ | refine R.sAug rfl ?_ | refine R.vSliT rfl rfl ?_ | refine R.vIsiNo rfl ?_ | refine R.vIsiBl rfl ?_ | refine R.vIsiIn rfl ?_ | refine R.vIsiSt rfl ?_ | refine R.vIsiTu rfl ?_ | refine R.ssCons ?_ | refine R.ssNil ?_ | refine R.w_iteT ?_ | refine R.w_iteF ?_))
          refine R.w_ite (fun _ => ?_) (fun _ => ?_)
          · (repeat (first | refine St.go ?_ | refine R.eVar rfl ?_ | refine ⟨_, rfl, ?_⟩ | refine R.sAug rfl ?_ | refine R.vSliT rfl rfl ?_ | refine R.vIsiNo rfl ?_ | refine R.vIsiBl rfl ?_ | refine R.vIsiIn rfl ?_ | refine R.vIsiSt rfl ?_ | refine R.vIsiTu rfl ?_ | refine R.ssCons ?_ | refine R.ssNil ?_ | refine R.w_iteT ?_ | refine R.w_iteF ?_))
            exact ⟨g4.mono (by omega), f4, hb4⟩
          · (repeat (first | refine St.go ?_ | refine R.eVar rfl ?_ | refine ⟨_, rfl, ?_⟩ | refine R.sAug rfl ?_ | refine R.vSliT rfl rfl ?_ | refine R.vIsiNo rfl ?_ | refine R.vIsiBl rfl ?_ | refine R.vIsiIn rfl ?_ | refine R.vIsiSt rfl ?_ | refine R.vIsiTu rfl ?_ | refine R.ssCons ?_ | refine R.ssNil ?_ | refine R.w_iteT ?_ | refine R.w_iteF ?_))
            refine hd (B := B + 1 + (3 - (k + 1)) * (SB d + 30) + (SB d + 29)) g4.fd (by decide) (by decide) fun t S5 _ _ fd5 fr5 => ?_
            (repeat (first | refine St.go ?_ | refine R.eVar rfl ?_ | refine ⟨_, rfl, ?_⟩ | refine R.sAug rfl ?_ | refine R.vSliT rfl rfl ?_ | refine R.vIsiNo rfl ?_ | refine R.vIsiBl rfl ?_ | refine R.vIsiIn rfl ?_ | refine R.vIsiSt rfl ?_ | refine R.vIsiTu rfl ?_ | refine R.ssCons ?_ | refine R.ssNil ?_ | refine R.w_iteT ?_ | refine R.w_iteF ?_))
            exact ⟨g4.step fd5 fr5, f4.trans (G.fr1 fr5), fr5.get hb4 (fun z => by have z : S.length = f := z; omega)⟩
        · (repeat (first | refine St.go ?_ | refine R.eVar rfl ?_ | refine ⟨_, rfl, ?_⟩ | refine R.sAug rfl ?_ | refine R.vSliT rfl rfl ?_ | refine R.vIsiNo rfl ?_ | refine R.vIsiBl rfl ?_ | refine R.vIsiIn rfl ?_ | refine R.vIsiSt rfl ?_ | refine R.vIsiTu rfl ?_ | refine R.ssCons ?_ | refine R.ssNil ?_ | refine R.w_iteT ?_ | refine R.w_iteF ?_))
          exact ⟨g3.mono (by omega), f3, hb3⟩
      · (repeat (first | refine St.go ?_ | refine R.eVar rfl ?_ | refine ⟨_, rfl, ?_⟩ | refine R.sAug rfl ?_ | refine R.vSliT rfl rfl ?_ | refine R.vIsiNo rfl ?_ | refine R.vIsiBl rfl ?_ | refine R.vIsiIn rfl ?_ | refine R.vIsiSt rfl ?_ | refine R.vIsiTu rfl ?_ | refine R.ssCons ?_ | refine R.ssNil ?_ | refine R.w_iteT ?_ | refine R.w_iteF ?_))
        exact ⟨g3.mono (by omega), f3, hb3⟩
    rintro t S4 ⟨g4, f4, hb4⟩
    have fin : ∀ (p : Prt) (S7 : Sto) o6 o7, p.Ok (T ks) → p.need ≤ 3 * d + 4 → PF (6 + 4 * d) (SW d + 158) p.v → GS f (B + 1 + (3 - (k + 1)) * (SB d + 30)) r kl ks S7 → Fr (FR f r) S S7 → S7[S.length]? = some (.lst ps.vs) →
        (k + 1 ≤ n.toNat ∧ GS f (B + 1 + (3 - (k + 1)) * (SB d + 30)) r kl ks (S7.set S.length (.lst (ps.vs ++ [p.v]))) ∧ Fr (FR f r) S (S7.set S.length (.lst (ps.vs ++ [p.v]))) ∧ ∃ ps' : Prts, (S7.set S.length (.lst (ps.vs ++ [p.v])))[S.length]? = some (.lst ps'.vs) ∧ ps'.Ok (T ks) ∧ ps'.need ≤ 3 * d + 4 ∧ PFs (6 + 4 * d) ((k + 1) * (SW d + 160)) ps'.vs ∧ ∃ p5 p6 p7, ([some (.loc f), some (.loc kl), some (.int (d : Nat)), some (.loc r), some (.loc S.length), some x, o6, o7] : Env) = [some (.loc f), some (.loc kl), some (.int (d : Nat)), some (.loc r), some (.loc S.length), p5, p6, p7]) := by
      intro p S7 o6 o7 h1 h2 h3 h4 h5 h6
      have hl : S.length < S7.length := (List.getElem?_eq_some_iff.mp h6).1
      refine ⟨hk2, h4.put (by omega) (by omega) (by omega), frNew h5 (Nat.le_refl _), ps.app p, ?_, Prts.app_ok pok h1, Prts.app_need pn h2, ?_, _, _, _, rfl⟩
      · rw [Prts.app_vs]; exact List.getElem?_set_self hl
      · rw [Prts.app_vs]
        exact (ppf.append (PFs.cons h3 PFs.nil)).mono (Nat.le_refl _) (by omega)
    have hsz : k * (SW d + 160) ≤ 20000000 := Nat.le_trans (Nat.mul_le_mul_right _ (show k ≤ 3 by omega)) (by omega)
    refine R.w_ite (fun _ => ?_) (fun _ => ?_)
    · -- where
      obtain ⟨rm4, hrm4⟩ := g4.rm
      (repeat (first | refine St.go ?_ | refine R.eVar rfl ?_ | refine ⟨_, rfl, ?_⟩ | refine R.sAug rfl ?_ | refine R.vSliT rfl rfl ?_ | refine R.vIsiNo rfl ?_ | refine R.vIsiBl rfl ?_ | refine R.vIsiIn rfl ?_ | refine R.vIsiSt rfl ?_ | refine R.vIsiTu rfl ?_ | refine R.ssCons ?_ | refine R.ssNil ?_ | refine R.w_iteT ?_ | refine R.w_iteF ?_))
      refine R.vGetL hrm4 rfl ?_
      (repeat (first | refine St.go ?_ | refine R.eVar rfl ?_ | refine ⟨_, rfl, ?_⟩ | refine R.sAug rfl ?_ | refine R.vSliT rfl rfl ?_ | refine R.vIsiNo rfl ?_ | refine R.vIsiBl rfl ?_ | refine R.vIsiIn rfl ?_ | refine R.vIsiSt rfl ?_ | refine R.vIsiTu rfl ?_ | refine R.ssCons ?_ | refine R.ssNil ?_ | refine R.w_iteT ?_ | refine R.w_iteF ?_))
      refine R.vSetL hrm4 rfl ?_
      show aft C _ _ _ (S4.set r (.lst [.int (rm4 - 1)]))
      have g5 := g4.room (k := rm4 - 1)
      have f5 : Fr (FR f r) S (S4.set r (.lst [.int (rm4 - 1)])) := f4.trans (Fr.set (.inr rfl))
      have hb5 : (S4.set r (.lst [.int (rm4 - 1)]))[S.length]? = some (.lst ps.vs) := (List.getElem?_set_ne (by omega)).trans hb4
      generalize S4.set r (Ob.lst [.int (rm4 - 1)]) = S5 at g5 f5 hb5
      (repeat (first | refine St.go ?_ | refine R.eVar rfl ?_ | refine ⟨_, rfl, ?_⟩ | refine R.sAug rfl ?_ | refine R.vSliT rfl rfl ?_ | refine R.vIsiNo rfl ?_ | refine R.vIsiBl rfl ?_ | refine R.vIsiIn rfl ?_ | refine R.vIsiSt rfl ?_ | refine R.vIsiTu rfl ?_ | refine R.ssCons ?_ | refine R.ssNil ?_ | refine R.w_iteT ?_ | refine R.w_iteF ?_))
      refine R.vTyL hb5 ?_
      (repeat (first | refine St.go ?_ | refine R.eVar rfl ?_ | refine ⟨_, rfl, ?_⟩ | refine R.sAug rfl ?_ | refine R.vSliT rfl rfl ?_ | refine R.vIsiNo rfl ?_ | refine R.vIsiBl rfl ?_ | refine R.vIsiIn rfl ?_ | refine R.vIsiSt rfl ?_ | refine R.vIsiTu rfl ?_ | refine R.ssCons ?_ | refine R.ssNil ?_ | refine R.w_iteT ?_ | refine R.w_iteF ?_))
      refine hs (B := B + 1 + (3 - (k + 1)) * (SB d + 30) + 29) (g5.mono (by omega)) fun s S6 sok sn spf g6 f6 => ?_
      have hb6 := f6.get hb5 (fun z => by rcases z with z | z <;> omega)
      (repeat (first | refine St.go ?_ | refine R.eVar rfl ?_ | refine ⟨_, rfl, ?_⟩ | refine R.sAug rfl ?_ | refine R.vSliT rfl rfl ?_ | refine R.vIsiNo rfl ?_ | refine R.vIsiBl rfl ?_ | refine R.vIsiIn rfl ?_ | refine R.vIsiSt rfl ?_ | refine R.vIsiTu rfl ?_ | refine R.ssCons ?_ | refine R.ssNil ?_ | refine R.w_iteT ?_ | refine R.w_iteF ?_))
      refine hw (B := B + 1 + (3 - (k + 1)) * (SB d + 30) + 27) g6.fd fun w S7 w0 w1 fd7 fr7 => ?_
      have hb7 := fr7.get hb6 (fun z => by have z : S.length = f := z; omega)
      (repeat (first | refine St.go ?_ | refine R.eVar rfl ?_ | refine ⟨_, rfl, ?_⟩ | refine R.sAug rfl ?_ | refine R.vSliT rfl rfl ?_ | refine R.vIsiNo rfl ?_ | refine R.vIsiBl rfl ?_ | refine R.vIsiIn rfl ?_ | refine R.vIsiSt rfl ?_ | refine R.vIsiTu rfl ?_ | refine R.ssCons ?_ | refine R.ssNil ?_ | refine R.w_iteT ?_ | refine R.w_iteF ?_))
      refine R.vApp hb7 ?_ ?_
      · exact pfs_lt ppf hsz
      (repeat (first | refine St.go ?_ | refine R.eVar rfl ?_ | refine ⟨_, rfl, ?_⟩ | refine R.sAug rfl ?_ | refine R.vSliT rfl rfl ?_ | refine R.vIsiNo rfl ?_ | refine R.vIsiBl rfl ?_ | refine R.vIsiIn rfl ?_ | refine R.vIsiSt rfl ?_ | refine R.vIsiTu rfl ?_ | refine R.ssCons ?_ | refine R.ssNil ?_ | refine R.w_iteT ?_ | refine R.w_iteF ?_))
      exact fin (.whr s w) S7 _ _ ⟨sok, by omega, by omega⟩ (by show s.need + 1 ≤ _; omega) ((PF.tup (PFs.cons ((PF.wd (by decide +kernel)).mono (k' := 5 + 4 * d) (by omega) (Nat.le_refl _)) (PFs.cons spf (PFs.cons ((PF.int (small63 (by omega) (by omega))).mono (by omega) (Nat.le_refl _)) PFs.nil)))).mono (by omega) (by omega)) ((g6.step fd7 fr7).mono (by omega)) (f5.trans (f6.trans (G.fr1 fr7))) hb7
    · -- of
      obtain ⟨rm4, hrm4⟩ := g4.rm
      (repeat (first | refine St.go ?_ | refine R.eVar rfl ?_ | refine ⟨_, rfl, ?_⟩ | refine R.sAug rfl ?_ | refine R.vSliT rfl rfl ?_ | refine R.vIsiNo rfl ?_ | refine R.vIsiBl rfl ?_ | refine R.vIsiIn rfl ?_ | refine R.vIsiSt rfl ?_ | refine R.vIsiTu rfl ?_ | refine R.ssCons ?_ | refine R.ssNil ?_ | refine R.w_iteT ?_ | refine R.w_iteF ?_))
      refine R.vIdxL hrm4 rfl ?_
      (repeat (first | refine St.go ?_ | refine R.eVar rfl ?_ | refine ⟨_, rfl, ?_⟩ | refine R.sAug rfl ?_ | refine R.vSliT rfl rfl ?_ | refine R.vIsiNo rfl ?_ | refine R.vIsiBl rfl ?_ | refine R.vIsiIn rfl ?_ | refine R.vIsiSt rfl ?_ | refine R.vIsiTu rfl ?_ | refine R.ssCons ?_ | refine R.ssNil ?_ | refine R.w_iteT ?_ | refine R.w_iteF ?_))
      refine R.w_mono (Q := fun t S5 => GS f (B + 1 + (3 - (k + 1)) * (SB d + 30) + (SB d + 29)) r kl ks S5 ∧ Fr (FR f r) S S5 ∧ S5[S.length]? = some (.lst ps.vs) ∧ (t = true → ks ≠ [])) ?_ ?_
      · refine R.w_ite (fun _ => ?_) (fun _ => ?_)
        · (repeat (first | refine St.go ?_ | refine R.eVar rfl ?_ | refine ⟨_, rfl, ?_⟩ | refine R.sAug rfl ?_ | refine R.vSliT rfl rfl ?_ | refine R.vIsiNo rfl ?_ | refine R.vIsiBl rfl ?_ | refine R.vIsiIn rfl ?_ | refine R.vIsiSt rfl ?_ | refine R.vIsiTu rfl ?_ | refine R.ssCons ?_ | refine R.ssNil ?_ | refine R.w_iteT ?_ | refine R.w_iteF ?_))
          refine neNilL g4.kk (kpf.rd _ _) kpf.ft (by decide) ?_
          (repeat (first | refine St.go ?_ | refine R.eVar rfl ?_ | refine ⟨_, rfl, ?_⟩ | refine R.sAug rfl ?_ | refine R.vSliT rfl rfl ?_ | refine R.vIsiNo rfl ?_ | refine R.vIsiBl rfl ?_ | refine R.vIsiIn rfl ?_ | refine R.vIsiSt rfl ?_ | refine R.vIsiTu rfl ?_ | refine R.ssCons ?_ | refine R.ssNil ?_ | refine R.w_iteT ?_ | refine R.w_iteF ?_))
          refine ⟨g4.grow Fr.alloc, f4.trans Fr.alloc, (Fr.alloc (X := fun _ => False)).get hb4 id, fun h e => ?_⟩
          subst e
          cases h
        · (repeat (first | refine St.go ?_ | refine R.eVar rfl ?_ | refine ⟨_, rfl, ?_⟩ | refine R.sAug rfl ?_ | refine R.vSliT rfl rfl ?_ | refine R.vIsiNo rfl ?_ | refine R.vIsiBl rfl ?_ | refine R.vIsiIn rfl ?_ | refine R.vIsiSt rfl ?_ | refine R.vIsiTu rfl ?_ | refine R.ssCons ?_ | refine R.ssNil ?_ | refine R.w_iteT ?_ | refine R.w_iteF ?_))
          exact ⟨g4, f4, hb4, (fun z => nomatch z)⟩
      rintro t2 S5 ⟨g5, f5, hb5, hne⟩
      refine R.w_ite (fun ht => ?_) (fun ht => ?_)
      · have hne := hne ht
        have hpos : (0 : Int) < ((kvs ks).length : Nat) ∧ (((kvs ks).length : Nat) : Int) ≤ 1000000 := by
          have hl : (kvs ks).length ≤ 12 := by unfold kvs; rw [List.length_map]; exact ok.len
          have : 0 < (kvs ks).length := by unfold kvs; rw [List.length_map]; exact List.length_pos_iff.mpr hne
          omega
        obtain ⟨rm5, hrm5⟩ := g5.rm
        (repeat (first | refine St.go ?_ | refine R.eVar rfl ?_ | refine ⟨_, rfl, ?_⟩ | refine R.sAug rfl ?_ | refine R.vSliT rfl rfl ?_ | refine R.vIsiNo rfl ?_ | refine R.vIsiBl rfl ?_ | refine R.vIsiIn rfl ?_ | refine R.vIsiSt rfl ?_ | refine R.vIsiTu rfl ?_ | refine R.ssCons ?_ | refine R.ssNil ?_ | refine R.w_iteT ?_ | refine R.w_iteF ?_))
        refine R.vGetL hrm5 rfl ?_
        (repeat (first | refine St.go ?_ | refine R.eVar rfl ?_ | refine ⟨_, rfl, ?_⟩ | refine R.sAug rfl ?_ | refine R.vSliT rfl rfl ?_ | refine R.vIsiNo rfl ?_ | refine R.vIsiBl rfl ?_ | refine R.vIsiIn rfl ?_ | refine R.vIsiSt rfl ?_ | refine R.vIsiTu rfl ?_ | refine R.ssCons ?_ | refine R.ssNil ?_ | refine R.w_iteT ?_ | refine R.w_iteF ?_))
        refine R.vSetL hrm5 rfl ?_
        show aft C _ _ _ (S5.set r (.lst [.int (rm5 - 1)]))
        have g6 := g5.room (k := rm5 - 1)
        have f6 : Fr (FR f r) S (S5.set r (.lst [.int (rm5 - 1)])) := f5.trans (Fr.set (.inr rfl))
        have hb6 : (S5.set r (.lst [.int (rm5 - 1)]))[S.length]? = some (.lst ps.vs) := (List.getElem?_set_ne (by omega)).trans hb5
        generalize S5.set r (Ob.lst [.int (rm5 - 1)]) = S6 at g6 f6 hb6
        (repeat (first | refine St.go ?_ | refine R.eVar rfl ?_ | refine ⟨_, rfl, ?_⟩ | refine R.sAug rfl ?_ | refine R.vSliT rfl rfl ?_ | refine R.vIsiNo rfl ?_ | refine R.vIsiBl rfl ?_ | refine R.vIsiIn rfl ?_ | refine R.vIsiSt rfl ?_ | refine R.vIsiTu rfl ?_ | refine R.ssCons ?_ | refine R.ssNil ?_ | refine R.w_iteT ?_ | refine R.w_iteF ?_))
        refine R.vLenL g6.kk ?_
        (repeat (first | refine St.go ?_ | refine R.eVar rfl ?_ | refine ⟨_, rfl, ?_⟩ | refine R.sAug rfl ?_ | refine R.vSliT rfl rfl ?_ | refine R.vIsiNo rfl ?_ | refine R.vIsiBl rfl ?_ | refine R.vIsiIn rfl ?_ | refine R.vIsiSt rfl ?_ | refine R.vIsiTu rfl ?_ | refine R.ssCons ?_ | refine R.ssNil ?_ | refine R.w_iteT ?_ | refine R.w_iteF ?_))
        refine hd.d (B := B + 1 + (3 - (k + 1)) * (SB d + 30) + (SB d + 28)) g6.fd hpos.1 hpos.2 fun i S7 i0 i1 fd7 fr7 => ?_
        have g7 := g6.step fd7 fr7
        have hb7 := fr7.get hb6 (fun z => by have z : S.length = f := z; omega)
        obtain ⟨⟨y, kd⟩, hp, e1⟩ := pick ok i0 i1
        have hy := ok.nm _ hp
        have hkd := ok.kd _ hp
        have hT := T_of ok hp
        dsimp only at hy hkd hT e1
        refine R.vIdxL g7.kk e1 ?_
        (repeat (first | refine St.go ?_ | refine R.eVar rfl ?_ | refine ⟨_, rfl, ?_⟩ | refine R.sAug rfl ?_ | refine R.vSliT rfl rfl ?_ | refine R.vIsiNo rfl ?_ | refine R.vIsiBl rfl ?_ | refine R.vIsiIn rfl ?_ | refine R.vIsiSt rfl ?_ | refine R.vIsiTu rfl ?_ | refine R.ssCons ?_ | refine R.ssNil ?_ | refine R.w_iteT ?_ | refine R.w_iteF ?_))
        refine R.vTyL hb7 ?_
        (repeat (first | refine St.go ?_ | refine R.eVar rfl ?_ | refine ⟨_, rfl, ?_⟩ | refine R.sAug rfl ?_ | refine R.vSliT rfl rfl ?_ | refine R.vIsiNo rfl ?_ | refine R.vIsiBl rfl ?_ | refine R.vIsiIn rfl ?_ | refine R.vIsiSt rfl ?_ | refine R.vIsiTu rfl ?_ | refine R.ssCons ?_ | refine R.ssNil ?_ | refine R.w_iteT ?_ | refine R.w_iteF ?_))
        refine hof (B := B + 1 + (3 - (k + 1)) * (SB d + 30) + (SB d + 8)) hkd hy g7.fd fun p S8 hp2 pf8 fd8 fr8 => ?_
        have hb8 := fr8.get hb7 (fun z => by have z : S.length = f := z; omega)
        (repeat (first | refine St.go ?_ | refine R.eVar rfl ?_ | refine ⟨_, rfl, ?_⟩ | refine R.sAug rfl ?_ | refine R.vSliT rfl rfl ?_ | refine R.vIsiNo rfl ?_ | refine R.vIsiBl rfl ?_ | refine R.vIsiIn rfl ?_ | refine R.vIsiSt rfl ?_ | refine R.vIsiTu rfl ?_ | refine R.ssCons ?_ | refine R.ssNil ?_ | refine R.w_iteT ?_ | refine R.w_iteF ?_))
        refine R.vApp hb8 (pfs_lt ppf hsz) ?_
        (repeat (first | refine St.go ?_ | refine R.eVar rfl ?_ | refine ⟨_, rfl, ?_⟩ | refine R.sAug rfl ?_ | refine R.vSliT rfl rfl ?_ | refine R.vIsiNo rfl ?_ | refine R.vIsiBl rfl ?_ | refine R.vIsiIn rfl ?_ | refine R.vIsiSt rfl ?_ | refine R.vIsiTu rfl ?_ | refine R.ssCons ?_ | refine R.ssNil ?_ | refine R.w_iteT ?_ | refine R.w_iteF ?_))
        have pk : p.Ok (T ks) ∧ p.need ≤ 1 := by
          rcases hp2 with ⟨h, w, rfl, hw0, hw1⟩ | ⟨h, ws, rfl, hl, hws⟩
          · exact ⟨⟨hT.trans h, by omega, by omega⟩, by show 1 ≤ 1; omega⟩
          · refine ⟨⟨⟨?_, by omega⟩, fun w hw => by have := hws w hw; omega⟩, by show 1 ≤ 1; omega⟩
            rw [hT]
            obtain ⟨_, _, _, _, _, hr⟩ := kd_shape kd hkd
            exact (hr h).1
        exact fin p S8 _ _ pk.1 (by have := pk.2; omega) (pf8.mono (by omega) (by omega)) ((g7.step fd8 fr8).mono (by omega)) (f6.trans ((G.fr1 fr7).trans (G.fr1 fr8))) hb8
      · (repeat (first | refine St.go ?_ | refine R.eVar rfl ?_ | refine ⟨_, rfl, ?_⟩ | refine R.sAug rfl ?_ | refine R.vSliT rfl rfl ?_ | refine R.vIsiNo rfl ?_ | refine R.vIsiBl rfl ?_ | refine R.vIsiIn rfl ?_ | refine R.vIsiSt rfl ?_ | refine R.vIsiTu rfl ?_ | refine R.ssCons ?_ | refine R.ssNil ?_ | refine R.w_iteT ?_ | refine R.w_iteF ?_))
        exact ⟨hk2, g5.mono (by omega), f5, ps, hb5, pok, pn, ppf.mono (Nat.le_refl _) (by omega), _, _, _, rfl⟩
  · rintro ρ S' ⟨_, g3, f3, ps, hb3, pok, pn, ppf, o5, o6, o7, rfl⟩
    refine ⟨nh, ?_⟩
    have hl : ((List.range n.toNat).map fun k => Val.int (k : Nat)).length = n.toNat := by simp
    rw [hl] at g3 ppf
    have ppf : PFs (6 + 4 * d) (3 * (SW d + 160)) ps.vs := ppf.mono (Nat.le_refl _) (Nat.mul_le_mul_right _ (by omega))
    (repeat (first | refine St.go ?_ | refine R.eVar rfl ?_ | refine ⟨_, rfl, ?_⟩ | refine R.sAug rfl ?_ | refine R.vSliT rfl rfl ?_ | refine R.vIsiNo rfl ?_ | refine R.vIsiBl rfl ?_ | refine R.vIsiIn rfl ?_ | refine R.vIsiSt rfl ?_ | refine R.vIsiTu rfl ?_ | refine R.ssCons ?_ | refine R.ssNil ?_ | refine R.w_iteT ?_ | refine R.w_iteF ?_))
    refine hd (B := B) (g3.fd.mono (by omega)) (by decide) (by decide) fun b S4 b0 b1 fd4 fr4 => ?_
    have hb4 := fr4.get hb3 (fun z => by have z : S.length = f := z; omega)
    (repeat (first | refine St.go ?_ | refine R.eVar rfl ?_ | refine ⟨_, rfl, ?_⟩ | refine R.sAug rfl ?_ | refine R.vSliT rfl rfl ?_ | refine R.vIsiNo rfl ?_ | refine R.vIsiBl rfl ?_ | refine R.vIsiIn rfl ?_ | refine R.vIsiSt rfl ?_ | refine R.vIsiTu rfl ?_ | refine R.ssCons ?_ | refine R.ssNil ?_ | refine R.w_iteT ?_ | refine R.w_iteF ?_))
    refine R.vSeqL hb4 ?_
    (repeat (first | refine St.go ?_ | refine R.eVar rfl ?_ | refine ⟨_, rfl, ?_⟩ | refine R.sAug rfl ?_ | refine R.vSliT rfl rfl ?_ | refine R.vIsiNo rfl ?_ | refine R.vIsiBl rfl ?_ | refine R.vIsiIn rfl ?_ | refine R.vIsiSt rfl ?_ | refine R.vIsiTu rfl ?_ | refine R.ssCons ?_ | refine R.ssNil ?_ | refine R.w_iteT ?_ | refine R.w_iteF ?_))
    refine q _ ps S4 pok (pfs_lt ppf (by omega)) pn ((PF.tup (PFs.cons ((PF.int (small63 (by omega) (by omega))).mono (k' := 7 + 4 * d) (by omega) (Nat.le_refl _)) (PFs.cons ((PF.tup ppf).mono (by omega) (Nat.le_refl _)) PFs.nil))).mono (by omega) (by omega)) (by omega) (by omega) (g3.step fd4 fr4) (f3.trans (G.fr1 fr4))
end
end G

end

section
set_option maxHeartbeats 1000000
set_option exponentiation.threshold 5000
/-! G5: sentences, kinds, rows mixed. -/
namespace G
open Ev
open PySem (Str PyData)
section
variable {C : Ctx} {S S' : Sto} {Q : Val → Sto → Prop} {f B B' r kl : Nat} {ks : Ks}
theorem sentence_ok {d : Nat} (hdw : SW d ≤ 5000000) (hd : DrawC C) (hpl : PlainC C) (hs : ∀ e, d = e + 1 → SenC C e) (ht : ∀ e, d = e + 1 → TermC C e) (g : GS f (B + SB d) r kl ks S) (q : ∀ s S', Sen.Ok (T ks) s → s.need ≤ 3 * d + 3 → PF (5 + 4 * d) (SW d) s.v → GS f B r kl ks S' → Fr (FR f r) S S' → Q s.v S') : V (xSs C bSentence (start 7 [.loc f, .loc kl, .int (d : Nat), .loc r])) S (ret Q) := by
  have ok := g.ok
  have sbg := SB_ge d
  have swg := SW_ge d
  obtain ⟨lf, lr, lk⟩ := g.lens
  obtain ⟨rm, hrm⟩ := g.rm
  (repeat (first | refine St.go ?_ | refine R.eVar rfl ?_ | refine ⟨_, rfl, ?_⟩ | refine R.sAug rfl ?_ | refine R.vSliT rfl rfl ?_ | refine R.vIsiNo rfl ?_ | refine R.vIsiBl rfl ?_ | refine R.vIsiIn rfl ?_ | refine R.vIsiSt rfl ?_ | refine R.vIsiTu rfl ?_ | refine R.ssCons ?_ | refine R.ssNil ?_ | refine R.w_iteT ?_ | refine R.w_iteF ?_))
  refine R.vGetL hrm rfl ?_
  (repeat (first | refine St.go ?_ | refine R.eVar rfl ?_ | refine ⟨_, rfl, ?_⟩ | refine R.sAug rfl ?_ | refine R.vSliT rfl rfl ?_ | refine R.vIsiNo rfl ?_ | refine R.vIsiBl rfl ?_ | refine R.vIsiIn rfl ?_ | refine R.vIsiSt rfl ?_ | refine R.vIsiTu rfl ?_ | refine R.ssCons ?_ | refine R.ssNil ?_ | refine R.w_iteT ?_ | refine R.w_iteF ?_))
  refine R.vSetL hrm rfl ?_
  show aft C _ _ _ (S.set r (.lst [.int (rm - 1)]))
  have g1 := g.room (k := rm - 1)
  have f1 : Fr (FR f r) S (S.set r (.lst [.int (rm - 1)])) := Fr.set (.inr rfl)
  generalize S.set r (Ob.lst [.int (rm - 1)]) = S1 at g1 f1
  (repeat (first | refine St.go ?_ | refine R.eVar rfl ?_ | refine ⟨_, rfl, ?_⟩ | refine R.sAug rfl ?_ | refine R.vSliT rfl rfl ?_ | refine R.vIsiNo rfl ?_ | refine R.vIsiBl rfl ?_ | refine R.vIsiIn rfl ?_ | refine R.vIsiSt rfl ?_ | refine R.vIsiTu rfl ?_ | refine R.ssCons ?_ | refine R.ssNil ?_ | refine R.w_iteT ?_ | refine R.w_iteF ?_))
  obtain ⟨bb, hbb⟩ : ∃ bb, SB d = bb + 1 := ⟨SB d - 1, by omega⟩
  refine hd (B := B + bb) (g1.fd.mono (by omega)) (by decide) (by decide) fun way S2 w0 w1 fd2 fr2 => ?_
  have g2 := g1.step fd2 fr2
  have f2 := f1.trans (G.fr1 (r := r) fr2)
  obtain ⟨rm2, hrm2⟩ := g2.rm
  (repeat (first | refine St.go ?_ | refine R.eVar rfl ?_ | refine ⟨_, rfl, ?_⟩ | refine R.sAug rfl ?_ | refine R.vSliT rfl rfl ?_ | refine R.vIsiNo rfl ?_ | refine R.vIsiBl rfl ?_ | refine R.vIsiIn rfl ?_ | refine R.vIsiSt rfl ?_ | refine R.vIsiTu rfl ?_ | refine R.ssCons ?_ | refine R.ssNil ?_ | refine R.w_iteT ?_ | refine R.w_iteF ?_))
  refine R.w_mono (Q := fun t S' => S' = S2 ∧ (t = false → 2 ≤ d)) ?_ ?_
  · refine R.w_ite (fun h => ?_) (fun h => ?_)
    · (repeat (first | refine St.go ?_ | refine R.eVar rfl ?_ | refine ⟨_, rfl, ?_⟩ | refine R.sAug rfl ?_ | refine R.vSliT rfl rfl ?_ | refine R.vIsiNo rfl ?_ | refine R.vIsiBl rfl ?_ | refine R.vIsiIn rfl ?_ | refine R.vIsiSt rfl ?_ | refine R.vIsiTu rfl ?_ | refine R.ssCons ?_ | refine R.ssNil ?_ | refine R.w_iteT ?_ | refine R.w_iteF ?_))
      exact ⟨rfl, (fun z => nomatch z)⟩
    · have h := of_decide_eq_false h
      (repeat (first | refine St.go ?_ | refine R.eVar rfl ?_ | refine ⟨_, rfl, ?_⟩ | refine R.sAug rfl ?_ | refine R.vSliT rfl rfl ?_ | refine R.vIsiNo rfl ?_ | refine R.vIsiBl rfl ?_ | refine R.vIsiIn rfl ?_ | refine R.vIsiSt rfl ?_ | refine R.vIsiTu rfl ?_ | refine R.ssCons ?_ | refine R.ssNil ?_ | refine R.w_iteT ?_ | refine R.w_iteF ?_))
      refine R.vIdxL hrm2 rfl ?_
      (repeat (first | refine St.go ?_ | refine R.eVar rfl ?_ | refine ⟨_, rfl, ?_⟩ | refine R.sAug rfl ?_ | refine R.vSliT rfl rfl ?_ | refine R.vIsiNo rfl ?_ | refine R.vIsiBl rfl ?_ | refine R.vIsiIn rfl ?_ | refine R.vIsiSt rfl ?_ | refine R.vIsiTu rfl ?_ | refine R.ssCons ?_ | refine R.ssNil ?_ | refine R.w_iteT ?_ | refine R.w_iteF ?_))
      refine R.w_ite (fun _ => ?_) (fun _ => ?_)
      · (repeat (first | refine St.go ?_ | refine R.eVar rfl ?_ | refine ⟨_, rfl, ?_⟩ | refine R.sAug rfl ?_ | refine R.vSliT rfl rfl ?_ | refine R.vIsiNo rfl ?_ | refine R.vIsiBl rfl ?_ | refine R.vIsiIn rfl ?_ | refine R.vIsiSt rfl ?_ | refine R.vIsiTu rfl ?_ | refine R.ssCons ?_ | refine R.ssNil ?_ | refine R.w_iteT ?_ | refine R.w_iteF ?_))
        exact ⟨rfl, (fun z => nomatch z)⟩
      · (repeat (first | refine St.go ?_ | refine R.eVar rfl ?_ | refine ⟨_, rfl, ?_⟩ | refine R.sAug rfl ?_ | refine R.vSliT rfl rfl ?_ | refine R.vIsiNo rfl ?_ | refine R.vIsiBl rfl ?_ | refine R.vIsiIn rfl ?_ | refine R.vIsiSt rfl ?_ | refine R.vIsiTu rfl ?_ | refine R.ssCons ?_ | refine R.ssNil ?_ | refine R.w_iteT ?_ | refine R.w_iteF ?_))
        exact ⟨rfl, fun _ => by omega⟩
  rintro t S' ⟨rfl, htt⟩
  refine R.w_ite (fun _ => ?_) (fun htf => ?_)
  · (repeat (first | refine St.go ?_ | refine R.eVar rfl ?_ | refine ⟨_, rfl, ?_⟩ | refine R.sAug rfl ?_ | refine R.vSliT rfl rfl ?_ | refine R.vIsiNo rfl ?_ | refine R.vIsiBl rfl ?_ | refine R.vIsiIn rfl ?_ | refine R.vIsiSt rfl ?_ | refine R.vIsiTu rfl ?_ | refine R.ssCons ?_ | refine R.ssNil ?_ | refine R.w_iteT ?_ | refine R.w_iteF ?_))
    refine hpl (B := B) (g2.mono (by omega)) fun s S3 sok sn spf g3 f3 => ?_
    (repeat (first | refine St.go ?_ | refine R.eVar rfl ?_ | refine ⟨_, rfl, ?_⟩ | refine R.sAug rfl ?_ | refine R.vSliT rfl rfl ?_ | refine R.vIsiNo rfl ?_ | refine R.vIsiBl rfl ?_ | refine R.vIsiIn rfl ?_ | refine R.vIsiSt rfl ?_ | refine R.vIsiTu rfl ?_ | refine R.ssCons ?_ | refine R.ssNil ?_ | refine R.w_iteT ?_ | refine R.w_iteF ?_))
    exact q s S3 sok (by omega) (spf.mono (by omega) (by omega)) g3 (f2.trans f3)
  have hd2 := htt htf
  obtain ⟨e, rfl⟩ : ∃ e, d = e + 1 := ⟨d - 1, by omega⟩
  have hs : SenC C e := hs e rfl
  have ht : TermC C e := ht e rfl
  have e1 : ((e + 1 : Nat) : Int) - 1 = (e : Nat) := by omega
  have ebb : bb = 3 * SB e + 199 := by unfold SB at hbb; omega
  have esw : SW (e + 1) = 3 * SW e + 2000 := rfl
  have sweg := SW_ge e
  (repeat (first | refine St.go ?_ | refine R.eVar rfl ?_ | refine ⟨_, rfl, ?_⟩ | refine R.sAug rfl ?_ | refine R.vSliT rfl rfl ?_ | refine R.vIsiNo rfl ?_ | refine R.vIsiBl rfl ?_ | refine R.vIsiIn rfl ?_ | refine R.vIsiSt rfl ?_ | refine R.vIsiTu rfl ?_ | refine R.ssCons ?_ | refine R.ssNil ?_ | refine R.w_iteT ?_ | refine R.w_iteF ?_))
  refine R.w_ite (fun _ => ?_) (fun _ => ?_)
  · (repeat (first | refine St.go ?_ | refine R.eVar rfl ?_ | refine ⟨_, rfl, ?_⟩ | refine R.sAug rfl ?_ | refine R.vSliT rfl rfl ?_ | refine R.vIsiNo rfl ?_ | refine R.vIsiBl rfl ?_ | refine R.vIsiIn rfl ?_ | refine R.vIsiSt rfl ?_ | refine R.vIsiTu rfl ?_ | refine R.ssCons ?_ | refine R.ssNil ?_ | refine R.w_iteT ?_ | refine R.w_iteF ?_))
    rw [e1]
    refine hs (B := B) (g2.mono (by omega)) fun s S3 sok sn spf g3 f3 => ?_
    (repeat (first | refine St.go ?_ | refine R.eVar rfl ?_ | refine ⟨_, rfl, ?_⟩ | refine R.sAug rfl ?_ | refine R.vSliT rfl rfl ?_ | refine R.vIsiNo rfl ?_ | refine R.vIsiBl rfl ?_ | refine R.vIsiIn rfl ?_ | refine R.vIsiSt rfl ?_ | refine R.vIsiTu rfl ?_ | refine R.ssCons ?_ | refine R.ssNil ?_ | refine R.w_iteT ?_ | refine R.w_iteF ?_))
    exact q (.not s) S3 sok (by show s.need + 1 ≤ _; omega) ((PF.tup (PFs.cons ((PF.wd (by decide +kernel)).mono (k' := 5 + 4 * e) (by omega) (Nat.le_refl _)) (PFs.cons spf PFs.nil))).mono (by omega) (by omega)) g3 (f2.trans f3)
  (repeat (first | refine St.go ?_ | refine R.eVar rfl ?_ | refine ⟨_, rfl, ?_⟩ | refine R.sAug rfl ?_ | refine R.vSliT rfl rfl ?_ | refine R.vIsiNo rfl ?_ | refine R.vIsiBl rfl ?_ | refine R.vIsiIn rfl ?_ | refine R.vIsiSt rfl ?_ | refine R.vIsiTu rfl ?_ | refine R.ssCons ?_ | refine R.ssNil ?_ | refine R.w_iteT ?_ | refine R.w_iteF ?_))
  refine R.w_ite (fun _ => ?_) (fun _ => ?_)
  · (repeat (first | refine St.go ?_ | refine R.eVar rfl ?_ | refine ⟨_, rfl, ?_⟩ | refine R.sAug rfl ?_ | refine R.vSliT rfl rfl ?_ | refine R.vIsiNo rfl ?_ | refine R.vIsiBl rfl ?_ | refine R.vIsiIn rfl ?_ | refine R.vIsiSt rfl ?_ | refine R.vIsiTu rfl ?_ | refine R.ssCons ?_ | refine R.ssNil ?_ | refine R.w_iteT ?_ | refine R.w_iteF ?_))
    rw [e1]
    refine ht (B := B + 1) (g2.mono (by omega)) fun b ps S3 pok pl pn ppf b0 b1 g3 f3 => ?_
    (repeat (first | refine St.go ?_ | refine R.eVar rfl ?_ | refine ⟨_, rfl, ?_⟩ | refine R.sAug rfl ?_ | refine R.vSliT rfl rfl ?_ | refine R.vIsiNo rfl ?_ | refine R.vIsiBl rfl ?_ | refine R.vIsiIn rfl ?_ | refine R.vIsiSt rfl ?_ | refine R.vIsiTu rfl ?_ | refine R.ssCons ?_ | refine R.ssNil ?_ | refine R.w_iteT ?_ | refine R.w_iteF ?_))
    refine hd (B := B) g3.fd (by decide) (by decide) fun c S4 c0 c1 fd4 fr4 => ?_
    (repeat (first | refine St.go ?_ | refine R.eVar rfl ?_ | refine ⟨_, rfl, ?_⟩ | refine R.sAug rfl ?_ | refine R.vSliT rfl rfl ?_ | refine R.vIsiNo rfl ?_ | refine R.vIsiBl rfl ?_ | refine R.vIsiIn rfl ?_ | refine R.vIsiSt rfl ?_ | refine R.vIsiTu rfl ?_ | refine R.ssCons ?_ | refine R.ssNil ?_ | refine R.w_iteT ?_ | refine R.w_iteF ?_))
    exact q (.least b ps _) S4 ⟨pok, pl⟩ (by show ps.need + 2 ≤ _; omega) ((PF.tup (PFs.cons ((PF.wd (by decide +kernel)).mono (k' := 8 + 4 * e) (by omega) (Nat.le_refl _)) (PFs.cons ppf (PFs.cons ((PF.int (small63 (by omega) (by omega))).mono (by omega) (Nat.le_refl _)) PFs.nil)))).mono (by omega) (by omega)) (g3.step fd4 fr4) (f2.trans (f3.trans (G.fr1 fr4)))
  (repeat (first | refine St.go ?_ | refine R.eVar rfl ?_ | refine ⟨_, rfl, ?_⟩ | refine R.sAug rfl ?_ | refine R.vSliT rfl rfl ?_ | refine R.vIsiNo rfl ?_ | refine R.vIsiBl rfl ?_ | refine R.vIsiIn rfl ?_ | refine R.vIsiSt rfl ?_ | refine R.vIsiTu rfl ?_ | refine R.ssCons ?_ | refine R.ssNil ?_ | refine R.w_iteT ?_ | refine R.w_iteF ?_))
  have hl2 : S.length ≤ S'.length := f2.len
  have g3 := g2.grow (Fr.alloc (o := .lst []))
  have f3 : Fr (FR f r) S (S' ++ [.lst []]) := f2.trans Fr.alloc
  have hb3 : (S' ++ [Ob.lst []])[S'.length]? = some (.lst []) := by simp
  generalize hbl : S'.length = b at hb3 hl2
  generalize S' ++ [Ob.lst []] = S3 at g3 f3 hb3
  refine hd (B := B + (3 * SB e + 198)) (g3.fd.mono (by omega)) (by decide) (by decide) fun n S4 n0 n1 fd4 fr4 => ?_
  have g4 := g3.step fd4 fr4
  have hb4 := fr4.get hb3 (fun z => by have z : b = f := z; omega)
  refine R.vRng n0 (by omega) ?_
  refine R.w_for (I := fun k ρ S' => k ≤ n.toNat ∧ GS f (B + (3 - k) * SB e) r kl ks S' ∧ Fr (FR f r) S S' ∧ ∃ ss : Sens, S'[b]? = some (.lst ss.vs) ∧ ss.Ok (T ks) ∧ ss.need ≤ 3 * e + 3 ∧ PFs (5 + 4 * e) (k * (SW e + 2)) ss.vs ∧ ∃ o6, ρ = [some (.loc f), some (.loc kl), some (.int ((e + 1 : Nat) : Int)), some (.loc r), some (.int way), some (.loc b), o6]) ?_ ?_
    ⟨Nat.zero_le _, g4.mono (by omega), f3.trans (G.fr1 fr4), .nil, hb4, trivial, Nat.zero_le _, PFs.nil.mono (Nat.le_refl _) (by omega), _, rfl⟩
  · rintro k x ρ S5 hk ⟨hk1, g5, f5, ss, hb5, sok, sn, spf, o6, rfl⟩
    have hk2 : k < n.toNat := by
      have := (List.getElem?_eq_some_iff.mp hk).1
      simpa using this
    have budget : B + (3 - k) * SB e = B + (3 - (k + 1)) * SB e + SB e := by
      have : 3 - k = (3 - (k + 1)) + 1 := by omega
      rw [this, Nat.add_mul]
      omega
    rw [budget] at g5
    have wstep : k * (SW e + 2) + (SW e + 2) = (k + 1) * (SW e + 2) := by rw [Nat.add_mul]; omega
    have hsz : k * (SW e + 2) ≤ 20000000 := Nat.le_trans (Nat.mul_le_mul_right _ (show k ≤ 3 by omega)) (by omega)
    refine ⟨nh, _, rfl, ?_⟩
    obtain ⟨rm5, hrm5⟩ := g5.rm
    (repeat (first | refine St.go ?_ | refine R.eVar rfl ?_ | refine ⟨_, rfl, ?_⟩ | refine R.sAug rfl ?_ | refine R.vSliT rfl rfl ?_ | refine R.vIsiNo rfl ?_ | refine R.vIsiBl rfl ?_ | refine R.vIsiIn rfl ?_ | refine R.vIsiSt rfl ?_ | refine R.vIsiTu rfl ?_ | refine R.ssCons ?_ | refine R.ssNil ?_ | refine R.w_iteT ?_ | refine R.w_iteF ?_))
    refine R.vIdxL hrm5 rfl ?_
    (repeat (first | refine St.go ?_ | refine R.eVar rfl ?_ | refine ⟨_, rfl, ?_⟩ | refine R.sAug rfl ?_ | refine R.vSliT rfl rfl ?_ | refine R.vIsiNo rfl ?_ | refine R.vIsiBl rfl ?_ | refine R.vIsiIn rfl ?_ | refine R.vIsiSt rfl ?_ | refine R.vIsiTu rfl ?_ | refine R.ssCons ?_ | refine R.ssNil ?_ | refine R.w_iteT ?_ | refine R.w_iteF ?_))
    refine R.w_ite (fun _ => ?_) (fun _ => ?_)
    · (repeat (first | refine St.go ?_ | refine R.eVar rfl ?_ | refine ⟨_, rfl, ?_⟩ | refine R.sAug rfl ?_ | refine R.vSliT rfl rfl ?_ | refine R.vIsiNo rfl ?_ | refine R.vIsiBl rfl ?_ | refine R.vIsiIn rfl ?_ | refine R.vIsiSt rfl ?_ | refine R.vIsiTu rfl ?_ | refine R.ssCons ?_ | refine R.ssNil ?_ | refine R.w_iteT ?_ | refine R.w_iteF ?_))
      refine R.vTyL hb5 ?_
      (repeat (first | refine St.go ?_ | refine R.eVar rfl ?_ | refine ⟨_, rfl, ?_⟩ | refine R.sAug rfl ?_ | refine R.vSliT rfl rfl ?_ | refine R.vIsiNo rfl ?_ | refine R.vIsiBl rfl ?_ | refine R.vIsiIn rfl ?_ | refine R.vIsiSt rfl ?_ | refine R.vIsiTu rfl ?_ | refine R.ssCons ?_ | refine R.ssNil ?_ | refine R.w_iteT ?_ | refine R.w_iteF ?_))
      rw [e1]
      refine hs g5 fun s S6 sok6 sn6 spf6 g6 f6 => ?_
      have hb6 := f6.get hb5 (fun z => by rcases z with z | z <;> omega)
      have hl6 : b < S6.length := (List.getElem?_eq_some_iff.mp hb6).1
      (repeat (first | refine St.go ?_ | refine R.eVar rfl ?_ | refine ⟨_, rfl, ?_⟩ | refine R.sAug rfl ?_ | refine R.vSliT rfl rfl ?_ | refine R.vIsiNo rfl ?_ | refine R.vIsiBl rfl ?_ | refine R.vIsiIn rfl ?_ | refine R.vIsiSt rfl ?_ | refine R.vIsiTu rfl ?_ | refine R.ssCons ?_ | refine R.ssNil ?_ | refine R.w_iteT ?_ | refine R.w_iteF ?_))
      refine R.vApp hb6 (pfs_lt spf hsz) ?_
      (repeat (first | refine St.go ?_ | refine R.eVar rfl ?_ | refine ⟨_, rfl, ?_⟩ | refine R.sAug rfl ?_ | refine R.vSliT rfl rfl ?_ | refine R.vIsiNo rfl ?_ | refine R.vIsiBl rfl ?_ | refine R.vIsiIn rfl ?_ | refine R.vIsiSt rfl ?_ | refine R.vIsiTu rfl ?_ | refine R.ssCons ?_ | refine R.ssNil ?_ | refine R.w_iteT ?_ | refine R.w_iteF ?_))
      refine ⟨hk2, g6.put (by omega) (by omega) (by omega), frNew (f5.trans f6) hl2, ss.app s, ?_, Sens.app_ok sok sok6, Sens.app_need sn sn6, ?_, _, rfl⟩
      · rw [Sens.app_vs]; exact List.getElem?_set_self hl6
      · rw [Sens.app_vs]
        exact (spf.append (PFs.cons spf6 PFs.nil)).mono (Nat.le_refl _) (by omega)
    · (repeat (first | refine St.go ?_ | refine R.eVar rfl ?_ | refine ⟨_, rfl, ?_⟩ | refine R.sAug rfl ?_ | refine R.vSliT rfl rfl ?_ | refine R.vIsiNo rfl ?_ | refine R.vIsiBl rfl ?_ | refine R.vIsiIn rfl ?_ | refine R.vIsiSt rfl ?_ | refine R.vIsiTu rfl ?_ | refine R.ssCons ?_ | refine R.ssNil ?_ | refine R.w_iteT ?_ | refine R.w_iteF ?_))
      exact ⟨hk2, g5.mono (by omega), f5, ss, hb5, sok, sn, spf.mono (Nat.le_refl _) (by omega), _, rfl⟩
  · rintro ρ S5 ⟨_, g5, f5, ss, hb5, sok, sn, spf, o6, rfl⟩
    refine ⟨nh, ?_⟩
    have hl : ((List.range n.toNat).map fun k => Val.int (k : Nat)).length = n.toNat := by simp
    rw [hl] at spf
    have spf : PFs (5 + 4 * e) (3 * (SW e + 2)) ss.vs := spf.mono (Nat.le_refl _) (Nat.mul_le_mul_right _ (by omega))
    (repeat (first | refine St.go ?_ | refine R.eVar rfl ?_ | refine ⟨_, rfl, ?_⟩ | refine R.sAug rfl ?_ | refine R.vSliT rfl rfl ?_ | refine R.vIsiNo rfl ?_ | refine R.vIsiBl rfl ?_ | refine R.vIsiIn rfl ?_ | refine R.vIsiSt rfl ?_ | refine R.vIsiTu rfl ?_ | refine R.ssCons ?_ | refine R.ssNil ?_ | refine R.w_iteT ?_ | refine R.w_iteF ?_))
    refine R.w_ite (fun _ => ?_) (fun _ => ?_)
    · (repeat (first | refine St.go ?_ | refine R.eVar rfl ?_ | refine ⟨_, rfl, ?_⟩ | refine R.sAug rfl ?_ | refine R.vSliT rfl rfl ?_ | refine R.vIsiNo rfl ?_ | refine R.vIsiBl rfl ?_ | refine R.vIsiIn rfl ?_ | refine R.vIsiSt rfl ?_ | refine R.vIsiTu rfl ?_ | refine R.ssCons ?_ | refine R.ssNil ?_ | refine R.w_iteT ?_ | refine R.w_iteF ?_))
      refine R.vSeqL hb5 ?_
      (repeat (first | refine St.go ?_ | refine R.eVar rfl ?_ | refine ⟨_, rfl, ?_⟩ | refine R.sAug rfl ?_ | refine R.vSliT rfl rfl ?_ | refine R.vIsiNo rfl ?_ | refine R.vIsiBl rfl ?_ | refine R.vIsiIn rfl ?_ | refine R.vIsiSt rfl ?_ | refine R.vIsiTu rfl ?_ | refine R.ssCons ?_ | refine R.ssNil ?_ | refine R.w_iteT ?_ | refine R.w_iteF ?_))
      exact q (.all ss) S5 ⟨sok, pfs_lt spf (by omega)⟩ (by show ss.need + 1 ≤ _; omega) ((PF.tup (PFs.cons ((PF.wd (by decide +kernel)).mono (k' := 6 + 4 * e) (by omega) (Nat.le_refl _)) (PFs.cons ((PF.tup spf).mono (by omega) (Nat.le_refl _)) PFs.nil))).mono (by omega) (by omega)) (g5.mono (by omega)) f5
    · (repeat (first | refine St.go ?_ | refine R.eVar rfl ?_ | refine ⟨_, rfl, ?_⟩ | refine R.sAug rfl ?_ | refine R.vSliT rfl rfl ?_ | refine R.vIsiNo rfl ?_ | refine R.vIsiBl rfl ?_ | refine R.vIsiIn rfl ?_ | refine R.vIsiSt rfl ?_ | refine R.vIsiTu rfl ?_ | refine R.ssCons ?_ | refine R.ssNil ?_ | refine R.w_iteT ?_ | refine R.w_iteF ?_))
      refine R.vSeqL hb5 ?_
      (repeat (first | refine St.go ?_ | refine R.eVar rfl ?_ | refine ⟨_, rfl, ?_⟩ | refine R.sAug rfl ?_ | refine R.vSliT rfl rfl ?_ | refine R.vIsiNo rfl ?_ | refine R.vIsiBl rfl ?_ | refine R.vIsiIn rfl ?_ | refine R.vIsiSt rfl ?_ | refine R.vIsiTu rfl ?_ | refine R.ssCons ?_ | refine R.ssNil ?_ | refine R.w_iteT ?_ | refine R.w_iteF ?_))
      exact q (.any ss) S5 ⟨sok, pfs_lt spf (by omega)⟩ (by show ss.need + 1 ≤ _; omega) ((PF.tup (PFs.cons ((PF.wd (by decide +kernel)).mono (k' := 6 + 4 * e) (by omega) (Nat.le_refl _)) (PFs.cons ((PF.tup spf).mono (by omega) (Nat.le_refl _)) PFs.nil))).mono (by omega) (by omega)) (g5.mono (by omega)) f5
theorem KsOk.nil : KsOk [] := ⟨(fun _ h => nomatch h), List.Pairwise.nil, (fun _ h => nomatch h), Nat.zero_le _⟩
def NameC (C : Ctx) : Prop := ∀ {f B g : Nat} {S : Sto} {Q : Val → Sto → Prop} {ns : List Str}, Feed f (B + 20) S → S[g]? = some (.lst (ns.map .str)) → g ≠ f → (∀ x ∈ ns, NmOk x) → ns.length ≤ 20 → (∀ x S', NmOk x → x ∉ ns → Feed f B S' → Fr (At f) S S' → Q (.str x) S') → V (C.call "_law_name" [.loc f, .loc g]) S Q
def KindC (C : Ctx) : Prop := ∀ {f B : Nat} {S : Sto} {Q : Val → Sto → Prop}, Feed f (B + 8) S → (∀ k S', Kd.Ok k → Feed f B S' → Fr (At f) S S' → Q k.v S') → V (C.call "_law_kind" [.loc f]) S Q
theorem kinds_ok (hd : DrawC C) (hn : NameC C) (hk : KindC C) {m : Int} (m0 : 0 ≤ m) (m1 : m ≤ 12) (fd : Feed f (B + 400) S) (q : ∀ ks S', KsOk ks → (ks.length : Int) = m → Feed f B S' → Fr (At f) S S' → Q (.tup (kvs ks)) S') : V (xSs C bKinds (start 7 [.loc f, .int m])) S (ret Q) := by
  have lf : f < S.length := by
    obtain ⟨c, cells, a, b, t, h1, _⟩ := fd
    exact (List.getElem?_eq_some_iff.mp h1).1
  (repeat (first | refine St.go ?_ | refine R.eVar rfl ?_ | refine ⟨_, rfl, ?_⟩ | refine R.sAug rfl ?_ | refine R.vSliT rfl rfl ?_ | refine R.vIsiNo rfl ?_ | refine R.vIsiBl rfl ?_ | refine R.vIsiIn rfl ?_ | refine R.vIsiSt rfl ?_ | refine R.vIsiTu rfl ?_ | refine R.ssCons ?_ | refine R.ssNil ?_ | refine R.w_iteT ?_ | refine R.w_iteF ?_))
  have fd1 := fd.grow (Fr.alloc (o := .lst []))
  have f1 : Fr (At f) S (S ++ [.lst []]) := Fr.alloc
  have hb1 : (S ++ [Ob.lst []])[S.length]? = some (.lst []) := by simp
  generalize S ++ [Ob.lst []] = S1 at fd1 f1 hb1
  refine R.vRng m0 (by omega) ?_
  refine R.w_for (I := fun k ρ S' => k ≤ m.toNat ∧ Feed f (B + 400 - k * 30) S' ∧ Fr (At f) S S' ∧ ∃ ks : Ks, KsOk ks ∧ ks.length = k ∧ S'[S.length]? = some (.lst (kvs ks)) ∧ ∃ o3 o4 o5 o6, ρ = [some (.loc f), some (.int m), some (.loc S.length), o3, o4, o5, o6]) ?_ ?_
    ⟨Nat.zero_le _, by simpa using fd1, f1, [], KsOk.nil, rfl, hb1, _, _, _, _, rfl⟩
  · rintro k x ρ S2 hk' ⟨hk1, fd2, f2, ks, ok, kl, hb2, o3, o4, o5, o6, rfl⟩
    have hk2 : k < m.toNat := by
      have := (List.getElem?_eq_some_iff.mp hk').1
      simpa using this
    have hx : x = .int (k : Nat) := by
      rw [List.getElem?_map, List.getElem?_range (by simpa using hk2)] at hk'
      exact (Option.some.inj hk').symm
    subst hx
    refine ⟨nh, _, rfl, ?_⟩
    (repeat (first | refine St.go ?_ | refine R.eVar rfl ?_ | refine ⟨_, rfl, ?_⟩ | refine R.sAug rfl ?_ | refine R.vSliT rfl rfl ?_ | refine R.vIsiNo rfl ?_ | refine R.vIsiBl rfl ?_ | refine R.vIsiIn rfl ?_ | refine R.vIsiSt rfl ?_ | refine R.vIsiTu rfl ?_ | refine R.ssCons ?_ | refine R.ssNil ?_ | refine R.w_iteT ?_ | refine R.w_iteF ?_))
    refine R.vWalkL hb2 ?_
    refine ⟨big (by unfold kvs; rw [List.length_map]; omega), ?_⟩
    have held : ∀ p ∈ [(S.length, kvs ks)], S2[p.1]? = some (.lst p.2) := fun p hp => by simp only [List.mem_singleton] at hp; subst hp; exact hb2
    refine R.w_com (I := fun j acc S3 => S3 = S2 ∧ acc = ((ks.take j).map (·.1)).map Val.str) ?_ ?_ ⟨rfl, rfl⟩
    · rintro j y acc S3 hj ⟨rfl, rfl⟩
      have hj' : (kvs ks)[j]? = some y := hj
      unfold kvs at hj'
      rw [List.getElem?_map] at hj'
      cases e3 : ks[j]? with
      | none => rw [e3] at hj'; cases hj'
      | some p =>
        rw [e3] at hj'
        cases hj'
        refine ⟨held, R.tOne rfl ?_⟩
        (repeat (first | refine St.go ?_ | refine R.eVar rfl ?_ | refine ⟨_, rfl, ?_⟩ | refine R.sAug rfl ?_ | refine R.vSliT rfl rfl ?_ | refine R.vIsiNo rfl ?_ | refine R.vIsiBl rfl ?_ | refine R.vIsiIn rfl ?_ | refine R.vIsiSt rfl ?_ | refine R.vIsiTu rfl ?_ | refine R.ssCons ?_ | refine R.ssNil ?_ | refine R.w_iteT ?_ | refine R.w_iteF ?_))
        refine ⟨rfl, ?_⟩
        rw [List.take_succ, e3]
        simp
    · rintro acc S3 ⟨rfl, rfl⟩
      refine ⟨held, ?_⟩
      have el : (kvs ks).length = ks.length := by unfold kvs; rw [List.length_map]
      rw [show (Walk.mk (kvs ks) [(S.length, kvs ks)]).xs.length = ks.length from el, List.take_length]
      have hg3 : (S3 ++ [Ob.lst ((ks.map (·.1)).map Val.str)])[S3.length]? = some (.lst ((ks.map (·.1)).map Val.str)) := by simp
      have fd3 := fd2.grow (Fr.alloc (o := .lst ((ks.map (·.1)).map Val.str)))
      have f3 : Fr (At f) S (S3 ++ [.lst ((ks.map (·.1)).map Val.str)]) := f2.trans Fr.alloc
      have hb3 := (Fr.alloc (o := .lst ((ks.map (·.1)).map Val.str)) (X := fun _ => False)).get hb2 id
      have hgl : S.length ≤ S3.length := f2.len
      generalize hgg : S3.length = gl at hg3 hgl
      generalize S3 ++ [Ob.lst ((ks.map (·.1)).map Val.str)] = S4 at hg3 fd3 f3 hb3
      (repeat (first | refine St.go ?_ | refine R.eVar rfl ?_ | refine ⟨_, rfl, ?_⟩ | refine R.sAug rfl ?_ | refine R.vSliT rfl rfl ?_ | refine R.vIsiNo rfl ?_ | refine R.vIsiBl rfl ?_ | refine R.vIsiIn rfl ?_ | refine R.vIsiSt rfl ?_ | refine R.vIsiTu rfl ?_ | refine R.ssCons ?_ | refine R.ssNil ?_ | refine R.w_iteT ?_ | refine R.w_iteF ?_))
      have e9 : B + 400 - k * 30 = (B + 400 - (k + 1) * 30 + 10) + 20 := by omega
      rw [e9] at fd3
      refine hn fd3 hg3 (by omega) (fun x hx => by
        obtain ⟨p, hp, rfl⟩ := List.mem_map.mp hx
        exact ok.nm p hp) (by rw [List.length_map]; omega) fun x S5 hx hnx fd5 fr5 => ?_
      have hb5 := fr5.get hb3 (fun z => by have z : S.length = f := z; omega)
      (repeat (first | refine St.go ?_ | refine R.eVar rfl ?_ | refine ⟨_, rfl, ?_⟩ | refine R.sAug rfl ?_ | refine R.vSliT rfl rfl ?_ | refine R.vIsiNo rfl ?_ | refine R.vIsiBl rfl ?_ | refine R.vIsiIn rfl ?_ | refine R.vIsiSt rfl ?_ | refine R.vIsiTu rfl ?_ | refine R.ssCons ?_ | refine R.ssNil ?_ | refine R.w_iteT ?_ | refine R.w_iteF ?_))
      refine R.vTyL hb5 ?_
      (repeat (first | refine St.go ?_ | refine R.eVar rfl ?_ | refine ⟨_, rfl, ?_⟩ | refine R.sAug rfl ?_ | refine R.vSliT rfl rfl ?_ | refine R.vIsiNo rfl ?_ | refine R.vIsiBl rfl ?_ | refine R.vIsiIn rfl ?_ | refine R.vIsiSt rfl ?_ | refine R.vIsiTu rfl ?_ | refine R.ssCons ?_ | refine R.ssNil ?_ | refine R.w_iteT ?_ | refine R.w_iteF ?_))
      refine R.w_mono (Q := fun t S' => Feed f (B + 400 - (k + 1) * 30 + 9) S' ∧ Fr (At f) S5 S' ∧ (t = true → 0 < k)) ?_ ?_
      · refine R.w_ite (fun h => ?_) (fun h => ?_)
        · have h := of_decide_eq_true h
          (repeat (first | refine St.go ?_ | refine R.eVar rfl ?_ | refine ⟨_, rfl, ?_⟩ | refine R.sAug rfl ?_ | refine R.vSliT rfl rfl ?_ | refine R.vIsiNo rfl ?_ | refine R.vIsiBl rfl ?_ | refine R.vIsiIn rfl ?_ | refine R.vIsiSt rfl ?_ | refine R.vIsiTu rfl ?_ | refine R.ssCons ?_ | refine R.ssNil ?_ | refine R.w_iteT ?_ | refine R.w_iteF ?_))
          refine hd fd5 (by decide) (by decide) fun t S6 _ _ fd6 fr6 => ?_
          (repeat (first | refine St.go ?_ | refine R.eVar rfl ?_ | refine ⟨_, rfl, ?_⟩ | refine R.sAug rfl ?_ | refine R.vSliT rfl rfl ?_ | refine R.vIsiNo rfl ?_ | refine R.vIsiBl rfl ?_ | refine R.vIsiIn rfl ?_ | refine R.vIsiSt rfl ?_ | refine R.vIsiTu rfl ?_ | refine R.ssCons ?_ | refine R.ssNil ?_ | refine R.w_iteT ?_ | refine R.w_iteF ?_))
          exact ⟨fd6, fr6, fun _ => by omega⟩
        · (repeat (first | refine St.go ?_ | refine R.eVar rfl ?_ | refine ⟨_, rfl, ?_⟩ | refine R.sAug rfl ?_ | refine R.vSliT rfl rfl ?_ | refine R.vIsiNo rfl ?_ | refine R.vIsiBl rfl ?_ | refine R.vIsiIn rfl ?_ | refine R.vIsiSt rfl ?_ | refine R.vIsiTu rfl ?_ | refine R.ssCons ?_ | refine R.ssNil ?_ | refine R.w_iteT ?_ | refine R.w_iteF ?_))
          exact ⟨fd5.mono (by omega), Fr.refl, (fun z => nomatch z)⟩
      rintro t S5b ⟨fd6, fr6, h6⟩
      refine R.w_mono (Q := fun v S' => Feed f (B + 400 - (k + 1) * 30) S' ∧ Fr (At f) S5 S' ∧ ∃ kd : Kd, kd.Ok ∧ v = kd.v) ?_ ?_
      · refine R.w_ite (fun h => ?_) (fun h => ?_)
        · have hk0 := h6 h
          obtain ⟨ini, p, rfl⟩ : ∃ ini p, ks = ini ++ [p] := by
            have hne : ks ≠ [] := fun e => by subst e; simp at kl; omega
            exact ⟨ks.dropLast, ks.getLast hne, (List.dropLast_concat_getLast hne).symm⟩
          have hb6 := fr6.get hb5 (fun z => by have z : S.length = f := z; omega)
          (repeat (first | refine St.go ?_ | refine R.eVar rfl ?_ | refine ⟨_, rfl, ?_⟩ | refine R.sAug rfl ?_ | refine R.vSliT rfl rfl ?_ | refine R.vIsiNo rfl ?_ | refine R.vIsiBl rfl ?_ | refine R.vIsiIn rfl ?_ | refine R.vIsiSt rfl ?_ | refine R.vIsiTu rfl ?_ | refine R.ssCons ?_ | refine R.ssNil ?_ | refine R.w_iteT ?_ | refine R.w_iteF ?_))
          refine R.vIdxL (k := -1) (v := .tup [.str p.1, p.2.v]) hb6 (by unfold kvs; rw [List.map_append]; exact atI_last _ _) ?_
          (repeat (first | refine St.go ?_ | refine R.eVar rfl ?_ | refine ⟨_, rfl, ?_⟩ | refine R.sAug rfl ?_ | refine R.vSliT rfl rfl ?_ | refine R.vIsiNo rfl ?_ | refine R.vIsiBl rfl ?_ | refine R.vIsiIn rfl ?_ | refine R.vIsiSt rfl ?_ | refine R.vIsiTu rfl ?_ | refine R.ssCons ?_ | refine R.ssNil ?_ | refine R.w_iteT ?_ | refine R.w_iteF ?_))
          refine R.vIdxT rfl ?_
          exact ⟨fd6.mono (by omega), fr6, p.2, ok.kd p (by simp), rfl⟩
        · (repeat (first | refine St.go ?_ | refine R.eVar rfl ?_ | refine ⟨_, rfl, ?_⟩ | refine R.sAug rfl ?_ | refine R.vSliT rfl rfl ?_ | refine R.vIsiNo rfl ?_ | refine R.vIsiBl rfl ?_ | refine R.vIsiIn rfl ?_ | refine R.vIsiSt rfl ?_ | refine R.vIsiTu rfl ?_ | refine R.ssCons ?_ | refine R.ssNil ?_ | refine R.w_iteT ?_ | refine R.w_iteF ?_))
          refine hk (B := B + 400 - (k + 1) * 30 + 1) fd6 fun kd S7 hkd fd7 fr7 => ?_
          exact ⟨fd7.mono (by omega), fr6.trans fr7, kd, hkd, rfl⟩
      rintro v S6 ⟨fd6, fr6, kd, hkd, rfl⟩
      have hb6 := fr6.get hb5 (fun z => by have z : S.length = f := z; omega)
      have hl6 : S.length < S6.length := (List.getElem?_eq_some_iff.mp hb6).1
      (repeat (first | refine St.go ?_ | refine R.eVar rfl ?_ | refine ⟨_, rfl, ?_⟩ | refine R.sAug rfl ?_ | refine R.vSliT rfl rfl ?_ | refine R.vIsiNo rfl ?_ | refine R.vIsiBl rfl ?_ | refine R.vIsiIn rfl ?_ | refine R.vIsiSt rfl ?_ | refine R.vIsiTu rfl ?_ | refine R.ssCons ?_ | refine R.ssNil ?_ | refine R.w_iteT ?_ | refine R.w_iteF ?_))
      refine R.vApp hb6 (Nat.lt_of_le_of_lt (show (kvs ks).length ≤ 12 by rw [el]; omega) (by decide)) ?_
      (repeat (first | refine St.go ?_ | refine R.eVar rfl ?_ | refine ⟨_, rfl, ?_⟩ | refine R.sAug rfl ?_ | refine R.vSliT rfl rfl ?_ | refine R.vIsiNo rfl ?_ | refine R.vIsiBl rfl ?_ | refine R.vIsiIn rfl ?_ | refine R.vIsiSt rfl ?_ | refine R.vIsiTu rfl ?_ | refine R.ssCons ?_ | refine R.ssNil ?_ | refine R.w_iteT ?_ | refine R.w_iteF ?_))
      have fs : Fr (fun i => i = S.length) S6 (S6.set S.length (.lst (kvs ks ++ [.tup [.str x, kd.v]]))) := Fr.set rfl
      refine ⟨hk2, fd6.far fs lf, frNew (f3.trans (fr5.trans fr6)) (Nat.le_refl _), ks ++ [(x, kd)], ⟨fun p hp => ?_, ?_, fun p hp => ?_, by rw [List.length_append, List.length_singleton]; omega⟩, by simp [kl], ?_, _, _, _, _, rfl⟩
      · rcases List.mem_append.mp hp with hp | hp
        · exact ok.nm p hp
        · simp only [List.mem_singleton] at hp; subst hp; exact hx
      · rw [List.map_append, List.nodup_append]
        refine ⟨ok.nd, by simp, fun a ha b hb => ?_⟩
        simp only [List.map_cons, List.map_nil, List.mem_singleton] at hb
        subst hb
        exact fun z => hnx (z ▸ ha)
      · rcases List.mem_append.mp hp with hp | hp
        · exact ok.kd p hp
        · simp only [List.mem_singleton] at hp; subst hp; exact hkd
      · rw [List.getElem?_set_self hl6]
        unfold kvs
        simp
  · rintro ρ S2 ⟨hk1, fd2, f2, ks, ok, kl, hb2, o3, o4, o5, o6, rfl⟩
    refine ⟨nh, ?_⟩
    have hl : ((List.range m.toNat).map fun k => Val.int (k : Nat)).length = m.toNat := by simp
    rw [hl] at kl fd2
    (repeat (first | refine St.go ?_ | refine R.eVar rfl ?_ | refine ⟨_, rfl, ?_⟩ | refine R.sAug rfl ?_ | refine R.vSliT rfl rfl ?_ | refine R.vIsiNo rfl ?_ | refine R.vIsiBl rfl ?_ | refine R.vIsiIn rfl ?_ | refine R.vIsiSt rfl ?_ | refine R.vIsiTu rfl ?_ | refine R.ssCons ?_ | refine R.ssNil ?_ | refine R.w_iteT ?_ | refine R.w_iteF ?_))
    refine R.vSeqL hb2 ?_
    (repeat (first | refine St.go ?_ | refine R.eVar rfl ?_ | refine ⟨_, rfl, ?_⟩ | refine R.sAug rfl ?_ | refine R.vSliT rfl rfl ?_ | refine R.vIsiNo rfl ?_ | refine R.vIsiBl rfl ?_ | refine R.vIsiIn rfl ?_ | refine R.vIsiSt rfl ?_ | refine R.vIsiTu rfl ?_ | refine R.ssCons ?_ | refine R.ssNil ?_ | refine R.w_iteT ?_ | refine R.w_iteF ?_))
    exact q ks S2 ok (by omega) (fd2.mono (by omega)) f2
theorem mixed_ok (hd : DrawC C) {vs : List Val} (hv : vs.length ≤ 20) (fd : Feed f (B + 20) S) (q : ∀ us S', us.Perm vs → Feed f B S' → Fr (At f) S S' → Q (.tup us) S') : V (xSs C bMixed (start 4 [.loc f, .tup vs])) S (ret Q) := by
  have lf : f < S.length := by
    obtain ⟨c, cells, a, b, t, h1, _⟩ := fd
    exact (List.getElem?_eq_some_iff.mp h1).1
  (repeat (first | refine St.go ?_ | refine R.eVar rfl ?_ | refine ⟨_, rfl, ?_⟩ | refine R.sAug rfl ?_ | refine R.vSliT rfl rfl ?_ | refine R.vIsiNo rfl ?_ | refine R.vIsiBl rfl ?_ | refine R.vIsiIn rfl ?_ | refine R.vIsiSt rfl ?_ | refine R.vIsiTu rfl ?_ | refine R.ssCons ?_ | refine R.ssNil ?_ | refine R.w_iteT ?_ | refine R.w_iteF ?_))
  have fd1 := fd.grow (Fr.alloc (o := .lst []))
  have f1 : Fr (At f) S (S ++ [.lst []]) := Fr.alloc
  have hb1 : (S ++ [Ob.lst []])[S.length]? = some (.lst []) := by simp
  generalize S ++ [Ob.lst []] = S1 at fd1 f1 hb1
  refine R.w_for (I := fun k ρ S' => k ≤ vs.length ∧ Feed f (B + 20 - k) S' ∧ Fr (At f) S S' ∧ ∃ us : List Val, us.Perm (vs.take k) ∧ S'[S.length]? = some (.lst us) ∧ ∃ o3, ρ = [some (.loc f), some (.tup vs), some (.loc S.length), o3]) ?_ ?_
    ⟨Nat.zero_le _, fd1, f1, [], by simp, hb1, _, rfl⟩
  · rintro k x ρ S2 hk ⟨hk1, fd2, f2, us, hp, hb2, o3, rfl⟩
    have hk2 : k < vs.length := (List.getElem?_eq_some_iff.mp hk).1
    have hul : us.length = k := by rw [hp.length_eq, List.length_take]; omega
    refine ⟨nh, _, rfl, ?_⟩
    (repeat (first | refine St.go ?_ | refine R.eVar rfl ?_ | refine ⟨_, rfl, ?_⟩ | refine R.sAug rfl ?_ | refine R.vSliT rfl rfl ?_ | refine R.vIsiNo rfl ?_ | refine R.vIsiBl rfl ?_ | refine R.vIsiIn rfl ?_ | refine R.vIsiSt rfl ?_ | refine R.vIsiTu rfl ?_ | refine R.ssCons ?_ | refine R.ssNil ?_ | refine R.w_iteT ?_ | refine R.w_iteF ?_))
    refine R.vTyL hb2 ?_
    (repeat (first | refine St.go ?_ | refine R.eVar rfl ?_ | refine ⟨_, rfl, ?_⟩ | refine R.sAug rfl ?_ | refine R.vSliT rfl rfl ?_ | refine R.vIsiNo rfl ?_ | refine R.vIsiBl rfl ?_ | refine R.vIsiIn rfl ?_ | refine R.vIsiSt rfl ?_ | refine R.vIsiTu rfl ?_ | refine R.ssCons ?_ | refine R.ssNil ?_ | refine R.w_iteT ?_ | refine R.w_iteF ?_))
    refine R.vLenL hb2 ?_
    (repeat (first | refine St.go ?_ | refine R.eVar rfl ?_ | refine ⟨_, rfl, ?_⟩ | refine R.sAug rfl ?_ | refine R.vSliT rfl rfl ?_ | refine R.vIsiNo rfl ?_ | refine R.vIsiBl rfl ?_ | refine R.vIsiIn rfl ?_ | refine R.vIsiSt rfl ?_ | refine R.vIsiTu rfl ?_ | refine R.ssCons ?_ | refine R.ssNil ?_ | refine R.w_iteT ?_ | refine R.w_iteF ?_))
    have e9 : B + 20 - k = (B + 20 - (k + 1)) + 1 := by omega
    rw [e9] at fd2
    refine hd.d fd2 (by omega) (by omega) fun i S3 i0 i1 fd3 fr3 => ?_
    have hb3 := fr3.get hb2 (fun z => by have z : S.length = f := z; omega)
    have hl3 : S.length < S3.length := (List.getElem?_eq_some_iff.mp hb3).1
    (repeat (first | refine St.go ?_ | refine R.eVar rfl ?_ | refine ⟨_, rfl, ?_⟩ | refine R.sAug rfl ?_ | refine R.vSliT rfl rfl ?_ | refine R.vIsiNo rfl ?_ | refine R.vIsiBl rfl ?_ | refine R.vIsiIn rfl ?_ | refine R.vIsiSt rfl ?_ | refine R.vIsiTu rfl ?_ | refine R.ssCons ?_ | refine R.ssNil ?_ | refine R.w_iteT ?_ | refine R.w_iteF ?_))
    refine R.vIns hb3 (Nat.lt_of_le_of_lt (show us.length ≤ 20 by omega) (by decide)) i0 (by omega) ?_
    (repeat (first | refine St.go ?_ | refine R.eVar rfl ?_ | refine ⟨_, rfl, ?_⟩ | refine R.sAug rfl ?_ | refine R.vSliT rfl rfl ?_ | refine R.vIsiNo rfl ?_ | refine R.vIsiBl rfl ?_ | refine R.vIsiIn rfl ?_ | refine R.vIsiSt rfl ?_ | refine R.vIsiTu rfl ?_ | refine R.ssCons ?_ | refine R.ssNil ?_ | refine R.w_iteT ?_ | refine R.w_iteF ?_))
    have fs : Fr (fun i => i = S.length) S3 (S3.set S.length (.lst (us.take i.toNat ++ [x] ++ us.drop i.toNat))) := Fr.set rfl
    refine ⟨hk2, fd3.far fs lf, frNew (f2.trans fr3) (Nat.le_refl _), us.take i.toNat ++ [x] ++ us.drop i.toNat, ?_, List.getElem?_set_self hl3, _, rfl⟩
    have hk' : vs[k]? = some x := hk
    rw [List.take_succ, hk']
    have p1 : (us.take i.toNat ++ [x] ++ us.drop i.toNat).Perm (us ++ [x]) := by
      have := List.perm_middle (a := x) (l₁ := us.take i.toNat) (l₂ := us.drop i.toNat)
      rw [List.take_append_drop] at this
      have e : us.take i.toNat ++ [x] ++ us.drop i.toNat = us.take i.toNat ++ x :: us.drop i.toNat := by simp
      rw [e]
      exact this.trans (List.perm_append_singleton x us).symm
    exact p1.trans (hp.append_right [x])
  · rintro ρ S2 ⟨hk1, fd2, f2, us, hp, hb2, o3, rfl⟩
    refine ⟨nh, ?_⟩
    (repeat (first | refine St.go ?_ | refine R.eVar rfl ?_ | refine ⟨_, rfl, ?_⟩ | refine R.sAug rfl ?_ | refine R.vSliT rfl rfl ?_ | refine R.vIsiNo rfl ?_ | refine R.vIsiBl rfl ?_ | refine R.vIsiIn rfl ?_ | refine R.vIsiSt rfl ?_ | refine R.vIsiTu rfl ?_ | refine R.ssCons ?_ | refine R.ssNil ?_ | refine R.w_iteT ?_ | refine R.w_iteF ?_))
    refine R.vSeqL hb2 ?_
    (repeat (first | refine St.go ?_ | refine R.eVar rfl ?_ | refine ⟨_, rfl, ?_⟩ | refine R.sAug rfl ?_ | refine R.vSliT rfl rfl ?_ | refine R.vIsiNo rfl ?_ | refine R.vIsiBl rfl ?_ | refine R.vIsiIn rfl ?_ | refine R.vIsiSt rfl ?_ | refine R.vIsiTu rfl ?_ | refine R.ssCons ?_ | refine R.ssNil ?_ | refine R.w_iteT ?_ | refine R.w_iteF ?_))
    have : vs.take (Walk.mk vs []).xs.length = vs := List.take_length
    rw [this] at hp
    exact q us S2 hp (fd2.mono (by simp only; omega)) f2
theorem mixedL_ok (hd : DrawC C) {vs : List Val} {g : Nat} (hv : vs.length ≤ 20) (fd : Feed f (B + 20) S) (hg : S[g]? = some (.lst vs)) (hgf : g ≠ f) (q : ∀ us S', us.Perm vs → Feed f B S' → Fr (At f) S S' → Q (.tup us) S') : V (xSs C bMixed (start 4 [.loc f, .loc g])) S (ret Q) := by
  have lf : f < S.length := by
    obtain ⟨c, cells, a, b, t, h1, _⟩ := fd
    exact (List.getElem?_eq_some_iff.mp h1).1
  have lg : g < S.length := (List.getElem?_eq_some_iff.mp hg).1
  (repeat (first | refine St.go ?_ | refine R.eVar rfl ?_ | refine ⟨_, rfl, ?_⟩ | refine R.sAug rfl ?_ | refine R.vSliT rfl rfl ?_ | refine R.vIsiNo rfl ?_ | refine R.vIsiBl rfl ?_ | refine R.vIsiIn rfl ?_ | refine R.vIsiSt rfl ?_ | refine R.vIsiTu rfl ?_ | refine R.ssCons ?_ | refine R.ssNil ?_ | refine R.w_iteT ?_ | refine R.w_iteF ?_))
  have fd1 := fd.grow (Fr.alloc (o := .lst []))
  have f1 : Fr (At f) S (S ++ [.lst []]) := Fr.alloc
  have hb1 : (S ++ [Ob.lst []])[S.length]? = some (.lst []) := by simp
  generalize S ++ [Ob.lst []] = S1 at fd1 f1 hb1
  refine R.vWalkL (f1.get hg hgf) ?_
  refine R.w_for (w := ⟨vs, [(g, vs)]⟩) (I := fun k ρ S' => k ≤ vs.length ∧ Feed f (B + 20 - k) S' ∧ Fr (At f) S S' ∧ ∃ us : List Val, us.Perm (vs.take k) ∧ S'[S.length]? = some (.lst us) ∧ ∃ o3, ρ = [some (.loc f), some (.loc g), some (.loc S.length), o3]) ?_ ?_
    ⟨Nat.zero_le _, fd1, f1, [], by simp, hb1, _, rfl⟩
  · rintro k x ρ S2 hk ⟨hk1, fd2, f2, us, hp, hb2, o3, rfl⟩
    have hk2 : k < vs.length := (List.getElem?_eq_some_iff.mp hk).1
    have hul : us.length = k := by rw [hp.length_eq, List.length_take]; omega
    refine ⟨fun q hq => by simp only [List.mem_singleton] at hq; subst hq; exact f2.get hg hgf, _, rfl, ?_⟩
    (repeat (first | refine St.go ?_ | refine R.eVar rfl ?_ | refine ⟨_, rfl, ?_⟩ | refine R.sAug rfl ?_ | refine R.vSliT rfl rfl ?_ | refine R.vIsiNo rfl ?_ | refine R.vIsiBl rfl ?_ | refine R.vIsiIn rfl ?_ | refine R.vIsiSt rfl ?_ | refine R.vIsiTu rfl ?_ | refine R.ssCons ?_ | refine R.ssNil ?_ | refine R.w_iteT ?_ | refine R.w_iteF ?_))
    refine R.vTyL hb2 ?_
    (repeat (first | refine St.go ?_ | refine R.eVar rfl ?_ | refine ⟨_, rfl, ?_⟩ | refine R.sAug rfl ?_ | refine R.vSliT rfl rfl ?_ | refine R.vIsiNo rfl ?_ | refine R.vIsiBl rfl ?_ | refine R.vIsiIn rfl ?_ | refine R.vIsiSt rfl ?_ | refine R.vIsiTu rfl ?_ | refine R.ssCons ?_ | refine R.ssNil ?_ | refine R.w_iteT ?_ | refine R.w_iteF ?_))
    refine R.vLenL hb2 ?_
    (repeat (first | refine St.go ?_ | refine R.eVar rfl ?_ | refine ⟨_, rfl, ?_⟩ | refine R.sAug rfl ?_ | refine R.vSliT rfl rfl ?_ | refine R.vIsiNo rfl ?_ | refine R.vIsiBl rfl ?_ | refine R.vIsiIn rfl ?_ | refine R.vIsiSt rfl ?_ | refine R.vIsiTu rfl ?_ | refine R.ssCons ?_ | refine R.ssNil ?_ | refine R.w_iteT ?_ | refine R.w_iteF ?_))
    have e9 : B + 20 - k = (B + 20 - (k + 1)) + 1 := by omega
    rw [e9] at fd2
    refine hd.d fd2 (by omega) (by omega) fun i S3 i0 i1 fd3 fr3 => ?_
    have hb3 := fr3.get hb2 (fun z => by have z : S.length = f := z; omega)
    have hl3 : S.length < S3.length := (List.getElem?_eq_some_iff.mp hb3).1
    (repeat (first | refine St.go ?_ | refine R.eVar rfl ?_ | refine ⟨_, rfl, ?_⟩ | refine R.sAug rfl ?_ | refine R.vSliT rfl rfl ?_ | refine R.vIsiNo rfl ?_ | refine R.vIsiBl rfl ?_ | refine R.vIsiIn rfl ?_ | refine R.vIsiSt rfl ?_ | refine R.vIsiTu rfl ?_ | refine R.ssCons ?_ | refine R.ssNil ?_ | refine R.w_iteT ?_ | refine R.w_iteF ?_))
    refine R.vIns hb3 (Nat.lt_of_le_of_lt (show us.length ≤ 20 by omega) (by decide)) i0 (by omega) ?_
    (repeat (first | refine St.go ?_ | refine R.eVar rfl ?_ | refine ⟨_, rfl, ?_⟩ | refine R.sAug rfl ?_ | refine R.vSliT rfl rfl ?_ | refine R.vIsiNo rfl ?_ | refine R.vIsiBl rfl ?_ | refine R.vIsiIn rfl ?_ | refine R.vIsiSt rfl ?_ | refine R.vIsiTu rfl ?_ | refine R.ssCons ?_ | refine R.ssNil ?_ | refine R.w_iteT ?_ | refine R.w_iteF ?_))
    have fs : Fr (fun i => i = S.length) S3 (S3.set S.length (.lst (us.take i.toNat ++ [x] ++ us.drop i.toNat))) := Fr.set rfl
    refine ⟨hk2, fd3.far fs lf, frNew (f2.trans fr3) (Nat.le_refl _), us.take i.toNat ++ [x] ++ us.drop i.toNat, ?_, List.getElem?_set_self hl3, _, rfl⟩
    have hk' : vs[k]? = some x := hk
    rw [List.take_succ, hk']
    have p1 : (us.take i.toNat ++ [x] ++ us.drop i.toNat).Perm (us ++ [x]) := by
      have := List.perm_middle (a := x) (l₁ := us.take i.toNat) (l₂ := us.drop i.toNat)
      rw [List.take_append_drop] at this
      have e : us.take i.toNat ++ [x] ++ us.drop i.toNat = us.take i.toNat ++ x :: us.drop i.toNat := by simp
      rw [e]
      exact this.trans (List.perm_append_singleton x us).symm
    exact p1.trans (hp.append_right [x])
  · rintro ρ S2 ⟨hk1, fd2, f2, us, hp, hb2, o3, rfl⟩
    refine ⟨fun q hq => by simp only [List.mem_singleton] at hq; subst hq; exact f2.get hg hgf, ?_⟩
    (repeat (first | refine St.go ?_ | refine R.eVar rfl ?_ | refine ⟨_, rfl, ?_⟩ | refine R.sAug rfl ?_ | refine R.vSliT rfl rfl ?_ | refine R.vIsiNo rfl ?_ | refine R.vIsiBl rfl ?_ | refine R.vIsiIn rfl ?_ | refine R.vIsiSt rfl ?_ | refine R.vIsiTu rfl ?_ | refine R.ssCons ?_ | refine R.ssNil ?_ | refine R.w_iteT ?_ | refine R.w_iteF ?_))
    refine R.vSeqL hb2 ?_
    (repeat (first | refine St.go ?_ | refine R.eVar rfl ?_ | refine ⟨_, rfl, ?_⟩ | refine R.sAug rfl ?_ | refine R.vSliT rfl rfl ?_ | refine R.vIsiNo rfl ?_ | refine R.vIsiBl rfl ?_ | refine R.vIsiIn rfl ?_ | refine R.vIsiSt rfl ?_ | refine R.vIsiTu rfl ?_ | refine R.ssCons ?_ | refine R.ssNil ?_ | refine R.w_iteT ?_ | refine R.w_iteF ?_))
    have : vs.take (Walk.mk vs [(g, vs)]).xs.length = vs := List.take_length
    rw [this] at hp
    exact q us S2 hp (fd2.mono (by simp only; omega)) f2
end
end G

end

section
set_option maxHeartbeats 1000000
set_option exponentiation.threshold 5000
/-! G6: what sentences say; the program's look at them. -/
namespace G
open Ev
open PySem (Str PyData)
/-- the places of an answer -/
def plc : Val → List Nat
  | .int i => [i.toNat]
  | .tup xs => xs.filterMap fun | .int i => some i.toNat | _ => none
  | _ => []
def ofS (ws : List Int) (a : Val) : Int := ((plc a).map fun i => ws.getD i 0).sum
theorem plc_tup (l : List Nat) : plc (.tup (l.map fun x => .int (x : Nat))) = l := by
  show (l.map fun x => Val.int (x : Nat)).filterMap _ = l
  rw [List.filterMap_map]
  induction l with
  | nil => rfl
  | cons a l ih =>
    rw [List.filterMap_cons_some (b := a) (by simp), ih]
mutual
def Sen.so (P : Str → Option Val) : Sen → Bool
  | .given x => (P x).isSome
  | .is x k => decide (P x = some (.int k))
  | .has x k => match P x with
    | some a => decide (0 ≤ k ∧ k.toNat ∈ plc a)
    | none => false
  | .least b ps bar => decide (bar ≤ b + (ps.pts P).sum)
  | .not s => !s.so P
  | .all ss => (ss.bs P).all id
  | .any ss => (ss.bs P).any id
def Sens.bs (P : Str → Option Val) : Sens → List Bool
  | .nil => []
  | .cons s ss => s.so P :: ss.bs P
def Prt.pt (P : Str → Option Val) : Prt → Int
  | .whr s w => if s.so P then w else 0
  | .times x w => match P x with
    | some (.int i) => w * i
    | _ => 0
  | .of x ws => match P x with
    | some a => ofS ws a
    | none => 0
def Prts.pts (P : Str → Option Val) : Prts → List Int
  | .nil => []
  | .cons p ps => p.pt P :: ps.pts P
end
theorem bs_len {P : Str → Option Val} : ∀ ss : Sens, (ss.bs P).length = ss.vs.length
  | .nil => rfl
  | .cons s ss => by simp only [Sens.bs, Sens.vs, List.length_cons, bs_len ss]
theorem pts_len {P : Str → Option Val} : ∀ ss : Prts, (ss.pts P).length = ss.vs.length
  | .nil => rfl
  | .cons s ss => by simp only [Prts.pts, Prts.vs, List.length_cons, pts_len ss]
/-- a def of the reckoner's list -/
def Has (D : List Fn) (g : Str) (b : Sxs) (np nN : Nat) : Prop := ∃ f, D.find? (fun f => decide (f.name = g)) = some f ∧ f.body = b ∧ f.ps.length = np ∧ f.N.length = nN
section
variable {D : List Fn} {glo : Str → Option Val} {scr : List Int} {gas : Nat}
/-- the calls at a depth -/
abbrev K (D : List Fn) (glo : Str → Option Val) (scr : List Int) (gas m : Nat) : Ctx := ⟨xSem D glo scr gas m, glo, scr, gas⟩
theorem call_at {m : Nat} {g : Str} {b : Sxs} {np nN : Nat} {vs : List Val} {S : Sto} {Q : Val → Sto → Prop} (h : Has D g b np nN) (hl : vs.length = np) (k : V (xSs (K D glo scr gas m) b (start nN vs)) S (ret Q)) : V ((K D glo scr gas (m + 1)).call g vs) S Q := by
  obtain ⟨f, h1, rfl, rfl, rfl⟩ := h
  exact R.w_sem (f := f) h1 hl k
theorem comG {w : Walk} {S : Sto} {turn : Val → M (Option Val)} {ys : List Val} {Q : List Val → Sto → Prop} (hh : ∀ p ∈ w.held, S[p.1]? = some (.lst p.2)) (hl : ys.length = w.xs.length) (h : ∀ (k : Nat) (x : Val), w.xs[k]? = some x → ∃ y, ys[k]? = some y ∧ V (turn x) S fun r S' => r = some y ∧ S' = S) (q : Q ys S) : V (xCom w turn w.xs) S Q := by
  refine R.w_com (I := fun k acc S' => S' = S ∧ acc = ys.take k) ?_ ?_ ⟨rfl, rfl⟩
  · rintro k x acc S' hk ⟨rfl, rfl⟩
    obtain ⟨y, e, hv⟩ := h k x hk
    refine ⟨hh, R.w_mono hv ?_⟩
    rintro r S' ⟨rfl, rfl⟩
    exact ⟨rfl, by rw [List.take_succ, e]; rfl⟩
  · rintro acc S' ⟨rfl, rfl⟩
    refine ⟨hh, ?_⟩
    rw [← hl, List.take_length]
    exact q
end
/-- what is known is of the sorts -/
def POk (T : Str → Nat) (P : Str → Option Val) : Prop := ∀ x a, P x = some a → AnsS (T x) a
theorem any_nat {l : List Nat} {k : Int} : ((dOfs (l.map fun x => Val.int (x : Nat))).any fun z => PyData.eqv z (.int k)) = decide (0 ≤ k ∧ k.toNat ∈ l) := by
  induction l with
  | nil => simp [dOfs]
  | cons a l ih =>
    simp only [List.map_cons, dOfs, dOf, List.any_cons, ih, PyData.eqv, List.mem_cons]
    rw [Bool.eq_iff_iff]
    simp only [Bool.or_eq_true, beq_iff_eq, decide_eq_true_eq]
    constructor
    · rintro (h | h)
      · exact ⟨by omega, .inl (by omega)⟩
      · exact ⟨h.1, .inr h.2⟩
    · rintro ⟨h0, h | h⟩
      · exact .inl (by omega)
      · exact .inr ⟨h0, h⟩
section
variable {D : List Fn} {glo : Str → Option Val} {scr : List Int} {gas : Nat} {T : Str → Nat} {P : Str → Option Val} {S : Sto} {n : Nat} {kv : List (L2.Key × Val)}
structure Views (D : List Fn) : Prop where
  so : Has D "is_so" bSo 2 4
  comes : Has D "comes_to" bComes 2 3
  part : Has D "part_of" bPart 2 8
theorem comes_run (hv : Views D) {m : Nat} {b : Int} {ps : Prts} (hp : ∀ (k : Nat) (x : Val), ps.vs[k]? = some x → ∃ y, (ps.pts P)[k]? = some y ∧ V ((K D glo scr gas m).call "part_of" [.loc n, x]) S fun v S' => v = .int y ∧ S' = S) (hl : ps.vs.length ≤ PySem.sizeLine) :
    V ((K D glo scr gas (m + 1)).call "comes_to" [.loc n, .tup [.int b, .tup ps.vs]]) S fun v S' => v = .int (b + (ps.pts P).sum) ∧ S' = S := by
  refine call_at hv.comes rfl ?_
  (repeat (first | refine St.go ?_ | refine R.eVar rfl ?_ | refine ⟨_, rfl, ?_⟩ | refine R.sAug rfl ?_ | refine R.vSliT rfl rfl ?_ | refine R.vIsiNo rfl ?_ | refine R.vIsiBl rfl ?_ | refine R.vIsiIn rfl ?_ | refine R.vIsiSt rfl ?_ | refine R.vIsiTu rfl ?_ | refine R.ssCons ?_ | refine R.ssNil ?_ | refine R.w_iteT ?_ | refine R.w_iteF ?_))
  refine R.vIdxT rfl ?_
  (repeat (first | refine St.go ?_ | refine R.eVar rfl ?_ | refine ⟨_, rfl, ?_⟩ | refine R.sAug rfl ?_ | refine R.vSliT rfl rfl ?_ | refine R.vIsiNo rfl ?_ | refine R.vIsiBl rfl ?_ | refine R.vIsiIn rfl ?_ | refine R.vIsiSt rfl ?_ | refine R.vIsiTu rfl ?_ | refine R.ssCons ?_ | refine R.ssNil ?_ | refine R.w_iteT ?_ | refine R.w_iteF ?_))
  refine R.vIdxT rfl ?_
  (repeat (first | refine St.go ?_ | refine R.eVar rfl ?_ | refine ⟨_, rfl, ?_⟩ | refine R.sAug rfl ?_ | refine R.vSliT rfl rfl ?_ | refine R.vIsiNo rfl ?_ | refine R.vIsiBl rfl ?_ | refine R.vIsiIn rfl ?_ | refine R.vIsiSt rfl ?_ | refine R.vIsiTu rfl ?_ | refine R.ssCons ?_ | refine R.ssNil ?_ | refine R.w_iteT ?_ | refine R.w_iteF ?_))
  refine ⟨hl, ?_⟩
  refine comG (ys := (ps.pts P).map Val.int) nh (by rw [List.length_map]; exact pts_len ps) (fun k x hk => ?_) ?_
  · obtain ⟨y, e, hv⟩ := hp k x hk
    refine ⟨.int y, by rw [List.getElem?_map, e]; rfl, R.tOne rfl ?_⟩
    (repeat (first | refine St.go ?_ | refine R.eVar rfl ?_ | refine ⟨_, rfl, ?_⟩ | refine R.sAug rfl ?_ | refine R.vSliT rfl rfl ?_ | refine R.vIsiNo rfl ?_ | refine R.vIsiBl rfl ?_ | refine R.vIsiIn rfl ?_ | refine R.vIsiSt rfl ?_ | refine R.vIsiTu rfl ?_ | refine R.ssCons ?_ | refine R.ssNil ?_ | refine R.w_iteT ?_ | refine R.w_iteF ?_))
    refine R.w_mono hv ?_
    rintro v S' ⟨rfl, rfl⟩
    exact ⟨rfl, rfl⟩
  · (repeat (first | refine St.go ?_ | refine R.eVar rfl ?_ | refine ⟨_, rfl, ?_⟩ | refine R.sAug rfl ?_ | refine R.vSliT rfl rfl ?_ | refine R.vIsiNo rfl ?_ | refine R.vIsiBl rfl ?_ | refine R.vIsiIn rfl ?_ | refine R.vIsiSt rfl ?_ | refine R.vIsiTu rfl ?_ | refine R.ssCons ?_ | refine R.ssNil ?_ | refine R.w_iteT ?_ | refine R.w_iteF ?_))
    exact ⟨rfl, rfl⟩
theorem sum_snoc (l : List Int) (x : Int) : (l ++ [x]).sum = l.sum + x := by rw [List.sum_append]; simp
mutual
theorem so_run (hv : Views D) (hP : POk T P) (hn : S[n]? = some (.dic kv)) (hk : ∀ x, dicGet kv (.inr x) = P x) : ∀ (s : Sen) (m : Nat), s.need ≤ m → s.Ok T → V ((K D glo scr gas m).call "is_so" [.loc n, s.v]) S fun v S' => v = .bl (s.so P) ∧ S' = S
  | .given x, 0, h, _ => absurd h (show ¬ 1 ≤ 0 by omega)
  | .given x, m + 1, _, _ => by
    refine call_at hv.so rfl ?_
    unfold Sen.v
    (repeat (first | refine St.go ?_ | refine R.eVar rfl ?_ | refine ⟨_, rfl, ?_⟩ | refine R.sAug rfl ?_ | refine R.vSliT rfl rfl ?_ | refine R.vIsiNo rfl ?_ | refine R.vIsiBl rfl ?_ | refine R.vIsiIn rfl ?_ | refine R.vIsiSt rfl ?_ | refine R.vIsiTu rfl ?_ | refine R.ssCons ?_ | refine R.ssNil ?_ | refine R.w_iteT ?_ | refine R.w_iteF ?_))
    refine R.vIdxT rfl ?_
    (repeat (first | refine St.go ?_ | refine R.eVar rfl ?_ | refine ⟨_, rfl, ?_⟩ | refine R.sAug rfl ?_ | refine R.vSliT rfl rfl ?_ | refine R.vIsiNo rfl ?_ | refine R.vIsiBl rfl ?_ | refine R.vIsiIn rfl ?_ | refine R.vIsiSt rfl ?_ | refine R.vIsiTu rfl ?_ | refine R.ssCons ?_ | refine R.ssNil ?_ | refine R.w_iteT ?_ | refine R.w_iteF ?_))
    refine R.vIdxT rfl ?_
    (repeat (first | refine St.go ?_ | refine R.eVar rfl ?_ | refine ⟨_, rfl, ?_⟩ | refine R.sAug rfl ?_ | refine R.vSliT rfl rfl ?_ | refine R.vIsiNo rfl ?_ | refine R.vIsiBl rfl ?_ | refine R.vIsiIn rfl ?_ | refine R.vIsiSt rfl ?_ | refine R.vIsiTu rfl ?_ | refine R.ssCons ?_ | refine R.ssNil ?_ | refine R.w_iteT ?_ | refine R.w_iteF ?_))
    refine R.vInD hn ?_
    rw [hk]
    (repeat (first | refine St.go ?_ | refine R.eVar rfl ?_ | refine ⟨_, rfl, ?_⟩ | refine R.sAug rfl ?_ | refine R.vSliT rfl rfl ?_ | refine R.vIsiNo rfl ?_ | refine R.vIsiBl rfl ?_ | refine R.vIsiIn rfl ?_ | refine R.vIsiSt rfl ?_ | refine R.vIsiTu rfl ?_ | refine R.ssCons ?_ | refine R.ssNil ?_ | refine R.w_iteT ?_ | refine R.w_iteF ?_))
    exact ⟨rfl, rfl⟩
  | .is x k, 0, h, _ => absurd h (show ¬ 1 ≤ 0 by omega)
  | .is x k, m + 1, _, ok => by
    have ok : T x = 1 := ok.1
    refine call_at hv.so rfl ?_
    unfold Sen.v
    (repeat (first | refine St.go ?_ | refine R.eVar rfl ?_ | refine ⟨_, rfl, ?_⟩ | refine R.sAug rfl ?_ | refine R.vSliT rfl rfl ?_ | refine R.vIsiNo rfl ?_ | refine R.vIsiBl rfl ?_ | refine R.vIsiIn rfl ?_ | refine R.vIsiSt rfl ?_ | refine R.vIsiTu rfl ?_ | refine R.ssCons ?_ | refine R.ssNil ?_ | refine R.w_iteT ?_ | refine R.w_iteF ?_))
    refine R.vIdxT rfl ?_
    (repeat (first | refine St.go ?_ | refine R.eVar rfl ?_ | refine ⟨_, rfl, ?_⟩ | refine R.sAug rfl ?_ | refine R.vSliT rfl rfl ?_ | refine R.vIsiNo rfl ?_ | refine R.vIsiBl rfl ?_ | refine R.vIsiIn rfl ?_ | refine R.vIsiSt rfl ?_ | refine R.vIsiTu rfl ?_ | refine R.ssCons ?_ | refine R.ssNil ?_ | refine R.w_iteT ?_ | refine R.w_iteF ?_))
    refine R.vIdxT rfl ?_
    (repeat (first | refine St.go ?_ | refine R.eVar rfl ?_ | refine ⟨_, rfl, ?_⟩ | refine R.sAug rfl ?_ | refine R.vSliT rfl rfl ?_ | refine R.vIsiNo rfl ?_ | refine R.vIsiBl rfl ?_ | refine R.vIsiIn rfl ?_ | refine R.vIsiSt rfl ?_ | refine R.vIsiTu rfl ?_ | refine R.ssCons ?_ | refine R.ssNil ?_ | refine R.w_iteT ?_ | refine R.w_iteF ?_))
    refine R.vInD hn ?_
    rw [hk]
    (repeat (first | refine St.go ?_ | refine R.eVar rfl ?_ | refine ⟨_, rfl, ?_⟩ | refine R.sAug rfl ?_ | refine R.vSliT rfl rfl ?_ | refine R.vIsiNo rfl ?_ | refine R.vIsiBl rfl ?_ | refine R.vIsiIn rfl ?_ | refine R.vIsiSt rfl ?_ | refine R.vIsiTu rfl ?_ | refine R.ssCons ?_ | refine R.ssNil ?_ | refine R.w_iteT ?_ | refine R.w_iteF ?_))
    unfold Sen.so
    cases hp : P x with
    | none =>
      (repeat (first | refine St.go ?_ | refine R.eVar rfl ?_ | refine ⟨_, rfl, ?_⟩ | refine R.sAug rfl ?_ | refine R.vSliT rfl rfl ?_ | refine R.vIsiNo rfl ?_ | refine R.vIsiBl rfl ?_ | refine R.vIsiIn rfl ?_ | refine R.vIsiSt rfl ?_ | refine R.vIsiTu rfl ?_ | refine R.ssCons ?_ | refine R.ssNil ?_ | refine R.w_iteT ?_ | refine R.w_iteF ?_))
      exact ⟨by simp, rfl⟩
    | some a =>
      obtain ⟨_, i, _, rfl⟩ | ⟨h, _⟩ | ⟨h, _⟩ := hP x a hp
      · (repeat (first | refine St.go ?_ | refine R.eVar rfl ?_ | refine ⟨_, rfl, ?_⟩ | refine R.sAug rfl ?_ | refine R.vSliT rfl rfl ?_ | refine R.vIsiNo rfl ?_ | refine R.vIsiBl rfl ?_ | refine R.vIsiIn rfl ?_ | refine R.vIsiSt rfl ?_ | refine R.vIsiTu rfl ?_ | refine R.ssCons ?_ | refine R.ssNil ?_ | refine R.w_iteT ?_ | refine R.w_iteF ?_))
        refine R.vIdxT rfl ?_
        refine R.vIdxD (v := .int i) hn (by rw [hk]; exact hp) ?_
        (repeat (first | refine St.go ?_ | refine R.eVar rfl ?_ | refine ⟨_, rfl, ?_⟩ | refine R.sAug rfl ?_ | refine R.vSliT rfl rfl ?_ | refine R.vIsiNo rfl ?_ | refine R.vIsiBl rfl ?_ | refine R.vIsiIn rfl ?_ | refine R.vIsiSt rfl ?_ | refine R.vIsiTu rfl ?_ | refine R.ssCons ?_ | refine R.ssNil ?_ | refine R.w_iteT ?_ | refine R.w_iteF ?_))
        refine R.vIdxT rfl ?_
        (repeat (first | refine St.go ?_ | refine R.eVar rfl ?_ | refine ⟨_, rfl, ?_⟩ | refine R.sAug rfl ?_ | refine R.vSliT rfl rfl ?_ | refine R.vIsiNo rfl ?_ | refine R.vIsiBl rfl ?_ | refine R.vIsiIn rfl ?_ | refine R.vIsiSt rfl ?_ | refine R.vIsiTu rfl ?_ | refine R.ssCons ?_ | refine R.ssNil ?_ | refine R.w_iteT ?_ | refine R.w_iteF ?_))
        exact ⟨by simp, rfl⟩
      · rw [ok] at h; cases h
      · rw [ok] at h; cases h
  | .has x k, 0, h, _ => absurd h (show ¬ 1 ≤ 0 by omega)
  | .has x k, m + 1, _, ok => by
    have ok : T x = 2 ∧ -1000000 ≤ k ∧ k ≤ 1000000 := ok
    refine call_at hv.so rfl ?_
    unfold Sen.v
    (repeat (first | refine St.go ?_ | refine R.eVar rfl ?_ | refine ⟨_, rfl, ?_⟩ | refine R.sAug rfl ?_ | refine R.vSliT rfl rfl ?_ | refine R.vIsiNo rfl ?_ | refine R.vIsiBl rfl ?_ | refine R.vIsiIn rfl ?_ | refine R.vIsiSt rfl ?_ | refine R.vIsiTu rfl ?_ | refine R.ssCons ?_ | refine R.ssNil ?_ | refine R.w_iteT ?_ | refine R.w_iteF ?_))
    refine R.vIdxT rfl ?_
    (repeat (first | refine St.go ?_ | refine R.eVar rfl ?_ | refine ⟨_, rfl, ?_⟩ | refine R.sAug rfl ?_ | refine R.vSliT rfl rfl ?_ | refine R.vIsiNo rfl ?_ | refine R.vIsiBl rfl ?_ | refine R.vIsiIn rfl ?_ | refine R.vIsiSt rfl ?_ | refine R.vIsiTu rfl ?_ | refine R.ssCons ?_ | refine R.ssNil ?_ | refine R.w_iteT ?_ | refine R.w_iteF ?_))
    refine R.vIdxT rfl ?_
    (repeat (first | refine St.go ?_ | refine R.eVar rfl ?_ | refine ⟨_, rfl, ?_⟩ | refine R.sAug rfl ?_ | refine R.vSliT rfl rfl ?_ | refine R.vIsiNo rfl ?_ | refine R.vIsiBl rfl ?_ | refine R.vIsiIn rfl ?_ | refine R.vIsiSt rfl ?_ | refine R.vIsiTu rfl ?_ | refine R.ssCons ?_ | refine R.ssNil ?_ | refine R.w_iteT ?_ | refine R.w_iteF ?_))
    refine R.vInD hn ?_
    rw [hk]
    (repeat (first | refine St.go ?_ | refine R.eVar rfl ?_ | refine ⟨_, rfl, ?_⟩ | refine R.sAug rfl ?_ | refine R.vSliT rfl rfl ?_ | refine R.vIsiNo rfl ?_ | refine R.vIsiBl rfl ?_ | refine R.vIsiIn rfl ?_ | refine R.vIsiSt rfl ?_ | refine R.vIsiTu rfl ?_ | refine R.ssCons ?_ | refine R.ssNil ?_ | refine R.w_iteT ?_ | refine R.w_iteF ?_))
    unfold Sen.so
    cases hp : P x with
    | none =>
      (repeat (first | refine St.go ?_ | refine R.eVar rfl ?_ | refine ⟨_, rfl, ?_⟩ | refine R.sAug rfl ?_ | refine R.vSliT rfl rfl ?_ | refine R.vIsiNo rfl ?_ | refine R.vIsiBl rfl ?_ | refine R.vIsiIn rfl ?_ | refine R.vIsiSt rfl ?_ | refine R.vIsiTu rfl ?_ | refine R.ssCons ?_ | refine R.ssNil ?_ | refine R.w_iteT ?_ | refine R.w_iteF ?_))
      exact ⟨rfl, rfl⟩
    | some a =>
      obtain ⟨h, _⟩ | ⟨_, l, _, hl, hll, rfl⟩ | ⟨h, _⟩ := hP x a hp
      · rw [ok.1] at h; cases h
      · (repeat (first | refine St.go ?_ | refine R.eVar rfl ?_ | refine ⟨_, rfl, ?_⟩ | refine R.sAug rfl ?_ | refine R.vSliT rfl rfl ?_ | refine R.vIsiNo rfl ?_ | refine R.vIsiBl rfl ?_ | refine R.vIsiIn rfl ?_ | refine R.vIsiSt rfl ?_ | refine R.vIsiTu rfl ?_ | refine R.ssCons ?_ | refine R.ssNil ?_ | refine R.w_iteT ?_ | refine R.w_iteF ?_))
        refine R.vIdxT rfl ?_
        (repeat (first | refine St.go ?_ | refine R.eVar rfl ?_ | refine ⟨_, rfl, ?_⟩ | refine R.sAug rfl ?_ | refine R.vSliT rfl rfl ?_ | refine R.vIsiNo rfl ?_ | refine R.vIsiBl rfl ?_ | refine R.vIsiIn rfl ?_ | refine R.vIsiSt rfl ?_ | refine R.vIsiTu rfl ?_ | refine R.ssCons ?_ | refine R.ssNil ?_ | refine R.w_iteT ?_ | refine R.w_iteF ?_))
        refine R.vIdxT rfl ?_
        refine R.vIdxD (v := .tup (l.map fun x => .int (x : Nat))) hn (by rw [hk]; exact hp) ?_
        have pt := PF.tup (pf_nats hl)
        have pi := PF.int (i := k) (small63 ok.2.1 ok.2.2)
        refine R.vInT (X := fun _ => False) (Y := fun _ => False) (pi.rd _ _) (pt.rd _ _) pi.ft pt.ft (by decide) (by decide) ?_
        rw [show dOf (.int k) = .int k from rfl, any_nat]
        (repeat (first | refine St.go ?_ | refine R.eVar rfl ?_ | refine ⟨_, rfl, ?_⟩ | refine R.sAug rfl ?_ | refine R.vSliT rfl rfl ?_ | refine R.vIsiNo rfl ?_ | refine R.vIsiBl rfl ?_ | refine R.vIsiIn rfl ?_ | refine R.vIsiSt rfl ?_ | refine R.vIsiTu rfl ?_ | refine R.ssCons ?_ | refine R.ssNil ?_ | refine R.w_iteT ?_ | refine R.w_iteF ?_))
        refine ⟨?_, rfl⟩
        dsimp only
        rw [plc_tup]
      · rw [ok.1] at h; cases h
  | .least b ps bar, 0, h, _ => absurd h (show ¬ ps.need + 2 ≤ 0 by omega)
  | .least b ps bar, 1, h, _ => absurd h (show ¬ ps.need + 2 ≤ 1 by omega)
  | .least b ps bar, m + 2, h, ok => by
    have h : ps.need + 2 ≤ m + 2 := h
    refine call_at hv.so rfl ?_
    unfold Sen.v
    (repeat (first | refine St.go ?_ | refine R.eVar rfl ?_ | refine ⟨_, rfl, ?_⟩ | refine R.sAug rfl ?_ | refine R.vSliT rfl rfl ?_ | refine R.vIsiNo rfl ?_ | refine R.vIsiBl rfl ?_ | refine R.vIsiIn rfl ?_ | refine R.vIsiSt rfl ?_ | refine R.vIsiTu rfl ?_ | refine R.ssCons ?_ | refine R.ssNil ?_ | refine R.w_iteT ?_ | refine R.w_iteF ?_))
    refine R.vIdxT rfl ?_
    (repeat (first | refine St.go ?_ | refine R.eVar rfl ?_ | refine ⟨_, rfl, ?_⟩ | refine R.sAug rfl ?_ | refine R.vSliT rfl rfl ?_ | refine R.vIsiNo rfl ?_ | refine R.vIsiBl rfl ?_ | refine R.vIsiIn rfl ?_ | refine R.vIsiSt rfl ?_ | refine R.vIsiTu rfl ?_ | refine R.ssCons ?_ | refine R.ssNil ?_ | refine R.w_iteT ?_ | refine R.w_iteF ?_))
    refine R.vIdxT rfl ?_
    (repeat (first | refine St.go ?_ | refine R.eVar rfl ?_ | refine ⟨_, rfl, ?_⟩ | refine R.sAug rfl ?_ | refine R.vSliT rfl rfl ?_ | refine R.vIsiNo rfl ?_ | refine R.vIsiBl rfl ?_ | refine R.vIsiIn rfl ?_ | refine R.vIsiSt rfl ?_ | refine R.vIsiTu rfl ?_ | refine R.ssCons ?_ | refine R.ssNil ?_ | refine R.w_iteT ?_ | refine R.w_iteF ?_))
    refine R.w_mono (comes_run hv (parts_run hv hP hn hk ps m (by omega) ok.1) (Nat.le_of_lt ok.2)) ?_
    rintro v S' ⟨rfl, rfl⟩
    (repeat (first | refine St.go ?_ | refine R.eVar rfl ?_ | refine ⟨_, rfl, ?_⟩ | refine R.sAug rfl ?_ | refine R.vSliT rfl rfl ?_ | refine R.vIsiNo rfl ?_ | refine R.vIsiBl rfl ?_ | refine R.vIsiIn rfl ?_ | refine R.vIsiSt rfl ?_ | refine R.vIsiTu rfl ?_ | refine R.ssCons ?_ | refine R.ssNil ?_ | refine R.w_iteT ?_ | refine R.w_iteF ?_))
    refine R.vIdxT rfl ?_
    (repeat (first | refine St.go ?_ | refine R.eVar rfl ?_ | refine ⟨_, rfl, ?_⟩ | refine R.sAug rfl ?_ | refine R.vSliT rfl rfl ?_ | refine R.vIsiNo rfl ?_ | refine R.vIsiBl rfl ?_ | refine R.vIsiIn rfl ?_ | refine R.vIsiSt rfl ?_ | refine R.vIsiTu rfl ?_ | refine R.ssCons ?_ | refine R.ssNil ?_ | refine R.w_iteT ?_ | refine R.w_iteF ?_))
    refine ⟨?_, rfl⟩
    unfold Sen.so
    congr 1
    rw [Bool.eq_iff_iff]
    simp
  | .not s, 0, h, _ => absurd h (show ¬ s.need + 1 ≤ 0 by omega)
  | .not s, m + 1, h, ok => by
    have h : s.need + 1 ≤ m + 1 := h
    refine call_at hv.so rfl ?_
    unfold Sen.v
    (repeat (first | refine St.go ?_ | refine R.eVar rfl ?_ | refine ⟨_, rfl, ?_⟩ | refine R.sAug rfl ?_ | refine R.vSliT rfl rfl ?_ | refine R.vIsiNo rfl ?_ | refine R.vIsiBl rfl ?_ | refine R.vIsiIn rfl ?_ | refine R.vIsiSt rfl ?_ | refine R.vIsiTu rfl ?_ | refine R.ssCons ?_ | refine R.ssNil ?_ | refine R.w_iteT ?_ | refine R.w_iteF ?_))
    refine R.vIdxT rfl ?_
    (repeat (first | refine St.go ?_ | refine R.eVar rfl ?_ | refine ⟨_, rfl, ?_⟩ | refine R.sAug rfl ?_ | refine R.vSliT rfl rfl ?_ | refine R.vIsiNo rfl ?_ | refine R.vIsiBl rfl ?_ | refine R.vIsiIn rfl ?_ | refine R.vIsiSt rfl ?_ | refine R.vIsiTu rfl ?_ | refine R.ssCons ?_ | refine R.ssNil ?_ | refine R.w_iteT ?_ | refine R.w_iteF ?_))
    refine R.vIdxT rfl ?_
    (repeat (first | refine St.go ?_ | refine R.eVar rfl ?_ | refine ⟨_, rfl, ?_⟩ | refine R.sAug rfl ?_ | refine R.vSliT rfl rfl ?_ | refine R.vIsiNo rfl ?_ | refine R.vIsiBl rfl ?_ | refine R.vIsiIn rfl ?_ | refine R.vIsiSt rfl ?_ | refine R.vIsiTu rfl ?_ | refine R.ssCons ?_ | refine R.ssNil ?_ | refine R.w_iteT ?_ | refine R.w_iteF ?_))
    refine R.w_mono (so_run hv hP hn hk s m (by omega) ok) ?_
    rintro v S' ⟨rfl, rfl⟩
    (repeat (first | refine St.go ?_ | refine R.eVar rfl ?_ | refine ⟨_, rfl, ?_⟩ | refine R.sAug rfl ?_ | refine R.vSliT rfl rfl ?_ | refine R.vIsiNo rfl ?_ | refine R.vIsiBl rfl ?_ | refine R.vIsiIn rfl ?_ | refine R.vIsiSt rfl ?_ | refine R.vIsiTu rfl ?_ | refine R.ssCons ?_ | refine R.ssNil ?_ | refine R.w_iteT ?_ | refine R.w_iteF ?_))
    exact ⟨rfl, rfl⟩
  | .all ss, 0, h, _ => absurd h (show ¬ ss.need + 1 ≤ 0 by omega)
  | .all ss, m + 1, h, ok => by
    have h : ss.need + 1 ≤ m + 1 := h
    refine call_at hv.so rfl ?_
    unfold Sen.v
    (repeat (first | refine St.go ?_ | refine R.eVar rfl ?_ | refine ⟨_, rfl, ?_⟩ | refine R.sAug rfl ?_ | refine R.vSliT rfl rfl ?_ | refine R.vIsiNo rfl ?_ | refine R.vIsiBl rfl ?_ | refine R.vIsiIn rfl ?_ | refine R.vIsiSt rfl ?_ | refine R.vIsiTu rfl ?_ | refine R.ssCons ?_ | refine R.ssNil ?_ | refine R.w_iteT ?_ | refine R.w_iteF ?_))
    refine R.vIdxT rfl ?_
    (repeat (first | refine St.go ?_ | refine R.eVar rfl ?_ | refine ⟨_, rfl, ?_⟩ | refine R.sAug rfl ?_ | refine R.vSliT rfl rfl ?_ | refine R.vIsiNo rfl ?_ | refine R.vIsiBl rfl ?_ | refine R.vIsiIn rfl ?_ | refine R.vIsiSt rfl ?_ | refine R.vIsiTu rfl ?_ | refine R.ssCons ?_ | refine R.ssNil ?_ | refine R.w_iteT ?_ | refine R.w_iteF ?_))
    refine R.vIdxT rfl ?_
    (repeat (first | refine St.go ?_ | refine R.eVar rfl ?_ | refine ⟨_, rfl, ?_⟩ | refine R.sAug rfl ?_ | refine R.vSliT rfl rfl ?_ | refine R.vIsiNo rfl ?_ | refine R.vIsiBl rfl ?_ | refine R.vIsiIn rfl ?_ | refine R.vIsiSt rfl ?_ | refine R.vIsiTu rfl ?_ | refine R.ssCons ?_ | refine R.ssNil ?_ | refine R.w_iteT ?_ | refine R.w_iteF ?_))
    refine ⟨Nat.le_of_lt ok.2, ?_⟩
    refine comG (ys := (ss.bs P).map Val.bl) nh (by rw [List.length_map]; exact bs_len ss) (fun k x hk' => ?_) ?_
    · obtain ⟨y, e, hv'⟩ := sens_run hv hP hn hk ss m (by omega) ok.1 k x hk'
      refine ⟨.bl y, by rw [List.getElem?_map, e]; rfl, R.tOne rfl ?_⟩
      (repeat (first | refine St.go ?_ | refine R.eVar rfl ?_ | refine ⟨_, rfl, ?_⟩ | refine R.sAug rfl ?_ | refine R.vSliT rfl rfl ?_ | refine R.vIsiNo rfl ?_ | refine R.vIsiBl rfl ?_ | refine R.vIsiIn rfl ?_ | refine R.vIsiSt rfl ?_ | refine R.vIsiTu rfl ?_ | refine R.ssCons ?_ | refine R.ssNil ?_ | refine R.w_iteT ?_ | refine R.w_iteF ?_))
      refine R.w_mono hv' ?_
      rintro v S' ⟨rfl, rfl⟩
      exact ⟨rfl, rfl⟩
    · refine R.vAll ?_
      (repeat (first | refine St.go ?_ | refine R.eVar rfl ?_ | refine ⟨_, rfl, ?_⟩ | refine R.sAug rfl ?_ | refine R.vSliT rfl rfl ?_ | refine R.vIsiNo rfl ?_ | refine R.vIsiBl rfl ?_ | refine R.vIsiIn rfl ?_ | refine R.vIsiSt rfl ?_ | refine R.vIsiTu rfl ?_ | refine R.ssCons ?_ | refine R.ssNil ?_ | refine R.w_iteT ?_ | refine R.w_iteF ?_))
      exact ⟨rfl, rfl⟩
  | .any ss, 0, h, _ => absurd h (show ¬ ss.need + 1 ≤ 0 by omega)
  | .any ss, m + 1, h, ok => by
    have h : ss.need + 1 ≤ m + 1 := h
    refine call_at hv.so rfl ?_
    unfold Sen.v
    (repeat (first | refine St.go ?_ | refine R.eVar rfl ?_ | refine ⟨_, rfl, ?_⟩ | refine R.sAug rfl ?_ | refine R.vSliT rfl rfl ?_ | refine R.vIsiNo rfl ?_ | refine R.vIsiBl rfl ?_ | refine R.vIsiIn rfl ?_ | refine R.vIsiSt rfl ?_ | refine R.vIsiTu rfl ?_ | refine R.ssCons ?_ | refine R.ssNil ?_ | refine R.w_iteT ?_ | refine R.w_iteF ?_))
    refine R.vIdxT rfl ?_
    (repeat (first | refine St.go ?_ | refine R.eVar rfl ?_ | refine ⟨_, rfl, ?_⟩ | refine R.sAug rfl ?_ | refine R.vSliT rfl rfl ?_ | refine R.vIsiNo rfl ?_ | refine R.vIsiBl rfl ?_ | refine R.vIsiIn rfl ?_ | refine R.vIsiSt rfl ?_ | refine R.vIsiTu rfl ?_ | refine R.ssCons ?_ | refine R.ssNil ?_ | refine R.w_iteT ?_ | refine R.w_iteF ?_))
    refine R.vIdxT rfl ?_
    (repeat (first | refine St.go ?_ | refine R.eVar rfl ?_ | refine ⟨_, rfl, ?_⟩ | refine R.sAug rfl ?_ | refine R.vSliT rfl rfl ?_ | refine R.vIsiNo rfl ?_ | refine R.vIsiBl rfl ?_ | refine R.vIsiIn rfl ?_ | refine R.vIsiSt rfl ?_ | refine R.vIsiTu rfl ?_ | refine R.ssCons ?_ | refine R.ssNil ?_ | refine R.w_iteT ?_ | refine R.w_iteF ?_))
    refine ⟨Nat.le_of_lt ok.2, ?_⟩
    refine comG (ys := (ss.bs P).map Val.bl) nh (by rw [List.length_map]; exact bs_len ss) (fun k x hk' => ?_) ?_
    · obtain ⟨y, e, hv'⟩ := sens_run hv hP hn hk ss m (by omega) ok.1 k x hk'
      refine ⟨.bl y, by rw [List.getElem?_map, e]; rfl, R.tOne rfl ?_⟩
      (repeat (first | refine St.go ?_ | refine R.eVar rfl ?_ | refine ⟨_, rfl, ?_⟩ | refine R.sAug rfl ?_ | refine R.vSliT rfl rfl ?_ | refine R.vIsiNo rfl ?_ | refine R.vIsiBl rfl ?_ | refine R.vIsiIn rfl ?_ | refine R.vIsiSt rfl ?_ | refine R.vIsiTu rfl ?_ | refine R.ssCons ?_ | refine R.ssNil ?_ | refine R.w_iteT ?_ | refine R.w_iteF ?_))
      refine R.w_mono hv' ?_
      rintro v S' ⟨rfl, rfl⟩
      exact ⟨rfl, rfl⟩
    · refine R.vAny ?_
      (repeat (first | refine St.go ?_ | refine R.eVar rfl ?_ | refine ⟨_, rfl, ?_⟩ | refine R.sAug rfl ?_ | refine R.vSliT rfl rfl ?_ | refine R.vIsiNo rfl ?_ | refine R.vIsiBl rfl ?_ | refine R.vIsiIn rfl ?_ | refine R.vIsiSt rfl ?_ | refine R.vIsiTu rfl ?_ | refine R.ssCons ?_ | refine R.ssNil ?_ | refine R.w_iteT ?_ | refine R.w_iteF ?_))
      exact ⟨rfl, rfl⟩
theorem sens_run (hv : Views D) (hP : POk T P) (hn : S[n]? = some (.dic kv)) (hk : ∀ x, dicGet kv (.inr x) = P x) : ∀ (ss : Sens) (m : Nat), ss.need ≤ m → ss.Ok T → ∀ (k : Nat) (x : Val), ss.vs[k]? = some x → ∃ y, (ss.bs P)[k]? = some y ∧ V ((K D glo scr gas m).call "is_so" [.loc n, x]) S fun v S' => v = .bl y ∧ S' = S
  | .nil, _, _, _, k, x, hx => by cases hx
  | .cons s ss, m, h, ok, 0, x, hx => by
    have h : max s.need ss.need ≤ m := h
    cases hx
    exact ⟨_, rfl, so_run hv hP hn hk s m (by omega) ok.1⟩
  | .cons s ss, m, h, ok, k + 1, x, hx => by
    have h : max s.need ss.need ≤ m := h
    exact sens_run hv hP hn hk ss m (by omega) ok.2 k x hx
theorem part_run (hv : Views D) (hP : POk T P) (hn : S[n]? = some (.dic kv)) (hk : ∀ x, dicGet kv (.inr x) = P x) : ∀ (p : Prt) (m : Nat), p.need ≤ m → p.Ok T → V ((K D glo scr gas m).call "part_of" [.loc n, p.v]) S fun v S' => v = .int (p.pt P) ∧ S' = S
  | .whr s w, 0, h, _ => absurd h (show ¬ s.need + 1 ≤ 0 by omega)
  | .whr s w, m + 1, h, ok => by
    have h : s.need + 1 ≤ m + 1 := h
    refine call_at hv.part rfl ?_
    unfold Prt.v
    (repeat (first | refine St.go ?_ | refine R.eVar rfl ?_ | refine ⟨_, rfl, ?_⟩ | refine R.sAug rfl ?_ | refine R.vSliT rfl rfl ?_ | refine R.vIsiNo rfl ?_ | refine R.vIsiBl rfl ?_ | refine R.vIsiIn rfl ?_ | refine R.vIsiSt rfl ?_ | refine R.vIsiTu rfl ?_ | refine R.ssCons ?_ | refine R.ssNil ?_ | refine R.w_iteT ?_ | refine R.w_iteF ?_))
    refine R.w_mono (so_run hv hP hn hk s m (by omega) ok.1) ?_
    rintro v S' ⟨rfl, rfl⟩
    (repeat (first | refine St.go ?_ | refine R.eVar rfl ?_ | refine ⟨_, rfl, ?_⟩ | refine R.sAug rfl ?_ | refine R.vSliT rfl rfl ?_ | refine R.vIsiNo rfl ?_ | refine R.vIsiBl rfl ?_ | refine R.vIsiIn rfl ?_ | refine R.vIsiSt rfl ?_ | refine R.vIsiTu rfl ?_ | refine R.ssCons ?_ | refine R.ssNil ?_ | refine R.w_iteT ?_ | refine R.w_iteF ?_))
    unfold Prt.pt
    refine R.w_ite (fun hb => ?_) (fun hb => ?_)
    · (repeat (first | refine St.go ?_ | refine R.eVar rfl ?_ | refine ⟨_, rfl, ?_⟩ | refine R.sAug rfl ?_ | refine R.vSliT rfl rfl ?_ | refine R.vIsiNo rfl ?_ | refine R.vIsiBl rfl ?_ | refine R.vIsiIn rfl ?_ | refine R.vIsiSt rfl ?_ | refine R.vIsiTu rfl ?_ | refine R.ssCons ?_ | refine R.ssNil ?_ | refine R.w_iteT ?_ | refine R.w_iteF ?_))
      exact ⟨by rw [hb]; rfl, rfl⟩
    · (repeat (first | refine St.go ?_ | refine R.eVar rfl ?_ | refine ⟨_, rfl, ?_⟩ | refine R.sAug rfl ?_ | refine R.vSliT rfl rfl ?_ | refine R.vIsiNo rfl ?_ | refine R.vIsiBl rfl ?_ | refine R.vIsiIn rfl ?_ | refine R.vIsiSt rfl ?_ | refine R.vIsiTu rfl ?_ | refine R.ssCons ?_ | refine R.ssNil ?_ | refine R.w_iteT ?_ | refine R.w_iteF ?_))
      exact ⟨by rw [hb]; rfl, rfl⟩
  | .times x w, 0, h, _ => absurd h (show ¬ 1 ≤ 0 by omega)
  | .times x w, m + 1, h, ok => by
    have ok : T x = 3 ∧ -1000000 ≤ w ∧ w ≤ 1000000 := ok
    refine call_at hv.part rfl ?_
    unfold Prt.v
    (repeat (first | refine St.go ?_ | refine R.eVar rfl ?_ | refine ⟨_, rfl, ?_⟩ | refine R.sAug rfl ?_ | refine R.vSliT rfl rfl ?_ | refine R.vIsiNo rfl ?_ | refine R.vIsiBl rfl ?_ | refine R.vIsiIn rfl ?_ | refine R.vIsiSt rfl ?_ | refine R.vIsiTu rfl ?_ | refine R.ssCons ?_ | refine R.ssNil ?_ | refine R.w_iteT ?_ | refine R.w_iteF ?_))
    refine R.vNinD hn ?_
    rw [hk]
    (repeat (first | refine St.go ?_ | refine R.eVar rfl ?_ | refine ⟨_, rfl, ?_⟩ | refine R.sAug rfl ?_ | refine R.vSliT rfl rfl ?_ | refine R.vIsiNo rfl ?_ | refine R.vIsiBl rfl ?_ | refine R.vIsiIn rfl ?_ | refine R.vIsiSt rfl ?_ | refine R.vIsiTu rfl ?_ | refine R.ssCons ?_ | refine R.ssNil ?_ | refine R.w_iteT ?_ | refine R.w_iteF ?_))
    unfold Prt.pt
    cases hp : P x with
    | none =>
      (repeat (first | refine St.go ?_ | refine R.eVar rfl ?_ | refine ⟨_, rfl, ?_⟩ | refine R.sAug rfl ?_ | refine R.vSliT rfl rfl ?_ | refine R.vIsiNo rfl ?_ | refine R.vIsiBl rfl ?_ | refine R.vIsiIn rfl ?_ | refine R.vIsiSt rfl ?_ | refine R.vIsiTu rfl ?_ | refine R.ssCons ?_ | refine R.ssNil ?_ | refine R.w_iteT ?_ | refine R.w_iteF ?_))
      exact ⟨rfl, rfl⟩
    | some a =>
      obtain ⟨h, _⟩ | ⟨h, _⟩ | ⟨_, i, i0, i1, rfl⟩ := hP x a hp
      · rw [ok.1] at h; cases h
      · rw [ok.1] at h; cases h
      · (repeat (first | refine St.go ?_ | refine R.eVar rfl ?_ | refine ⟨_, rfl, ?_⟩ | refine R.sAug rfl ?_ | refine R.vSliT rfl rfl ?_ | refine R.vIsiNo rfl ?_ | refine R.vIsiBl rfl ?_ | refine R.vIsiIn rfl ?_ | refine R.vIsiSt rfl ?_ | refine R.vIsiTu rfl ?_ | refine R.ssCons ?_ | refine R.ssNil ?_ | refine R.w_iteT ?_ | refine R.w_iteF ?_))
        refine R.vIdxD (v := .int i) hn (by rw [hk]; exact hp) ?_
        (repeat (first | refine St.go ?_ | refine R.eVar rfl ?_ | refine ⟨_, rfl, ?_⟩ | refine R.sAug rfl ?_ | refine R.vSliT rfl rfl ?_ | refine R.vIsiNo rfl ?_ | refine R.vIsiBl rfl ?_ | refine R.vIsiIn rfl ?_ | refine R.vIsiSt rfl ?_ | refine R.vIsiTu rfl ?_ | refine R.ssCons ?_ | refine R.ssNil ?_ | refine R.w_iteT ?_ | refine R.w_iteF ?_))
        refine R.vMul (mulOk_of (small4 ok.2.1 ok.2.2) (small4 (by omega) (by omega))) ?_
        (repeat (first | refine St.go ?_ | refine R.eVar rfl ?_ | refine ⟨_, rfl, ?_⟩ | refine R.sAug rfl ?_ | refine R.vSliT rfl rfl ?_ | refine R.vIsiNo rfl ?_ | refine R.vIsiBl rfl ?_ | refine R.vIsiIn rfl ?_ | refine R.vIsiSt rfl ?_ | refine R.vIsiTu rfl ?_ | refine R.ssCons ?_ | refine R.ssNil ?_ | refine R.w_iteT ?_ | refine R.w_iteF ?_))
        exact ⟨rfl, rfl⟩
  | .of x ws, 0, h, _ => absurd h (show ¬ 1 ≤ 0 by omega)
  | .of x ws, m + 1, h, ok => by
    have ok : (T x = 1 ∨ T x = 2) ∧ ws.length ≤ 64 := ok.1
    refine call_at hv.part rfl ?_
    unfold Prt.v
    (repeat (first | refine St.go ?_ | refine R.eVar rfl ?_ | refine ⟨_, rfl, ?_⟩ | refine R.sAug rfl ?_ | refine R.vSliT rfl rfl ?_ | refine R.vIsiNo rfl ?_ | refine R.vIsiBl rfl ?_ | refine R.vIsiIn rfl ?_ | refine R.vIsiSt rfl ?_ | refine R.vIsiTu rfl ?_ | refine R.ssCons ?_ | refine R.ssNil ?_ | refine R.w_iteT ?_ | refine R.w_iteF ?_))
    refine R.vNinD hn ?_
    rw [hk]
    (repeat (first | refine St.go ?_ | refine R.eVar rfl ?_ | refine ⟨_, rfl, ?_⟩ | refine R.sAug rfl ?_ | refine R.vSliT rfl rfl ?_ | refine R.vIsiNo rfl ?_ | refine R.vIsiBl rfl ?_ | refine R.vIsiIn rfl ?_ | refine R.vIsiSt rfl ?_ | refine R.vIsiTu rfl ?_ | refine R.ssCons ?_ | refine R.ssNil ?_ | refine R.w_iteT ?_ | refine R.w_iteF ?_))
    unfold Prt.pt
    cases hp : P x with
    | none =>
      (repeat (first | refine St.go ?_ | refine R.eVar rfl ?_ | refine ⟨_, rfl, ?_⟩ | refine R.sAug rfl ?_ | refine R.vSliT rfl rfl ?_ | refine R.vIsiNo rfl ?_ | refine R.vIsiBl rfl ?_ | refine R.vIsiIn rfl ?_ | refine R.vIsiSt rfl ?_ | refine R.vIsiTu rfl ?_ | refine R.ssCons ?_ | refine R.ssNil ?_ | refine R.w_iteT ?_ | refine R.w_iteF ?_))
      exact ⟨rfl, rfl⟩
    | some a =>
      have tail : ∀ (l : List Nat) (ρ : Env), l.length ≤ 64 → ρ.length = 8 → ρ[4]? = some (some (.tup (ws.map .int))) → ρ[6]? = some (some (.tup (l.map fun x => .int (x : Nat)))) → ofS ws a = (l.map fun i => ws.getD i 0).sum →
          V (xCom ⟨l.map fun x => .int (x : Nat), []⟩ (xTurn (K D glo scr gas m) [7] (.nam 7) (.cmp .Lt (.var 7) (.bi "len" (.cons (.var 4) .nil))) (.idx (.var 4) (.var 7)) ρ) (l.map fun x => .int (x : Nat))) S fun ys S' => S' = S ∧ ∃ ns : List Int, ys = ns.map Val.int ∧ ns.sum = ofS ws a := by
        intro l ρ hl hρ h4 h6 hs
        have e0 : (l.map fun x => Val.int (x : Nat)) = (Walk.mk (l.map fun x => .int (x : Nat)) []).xs := rfl
        rw [e0]
        refine R.w_com (I := fun k acc S' => S' = S ∧ ∃ ns : List Int, acc = ns.map Val.int ∧ ns.sum = ((l.take k).map fun i => ws.getD i 0).sum) ?_ ?_ ⟨rfl, [], rfl, rfl⟩
        · rintro k y acc S' hk' ⟨rfl, ns, rfl, hns⟩
          have hk' : (l.map fun x => Val.int (x : Nat))[k]? = some y := hk'
          rw [List.getElem?_map] at hk'
          cases e3 : l[k]? with
          | none => rw [e3] at hk'; cases hk'
          | some i =>
            rw [e3] at hk'
            cases hk'
            have ea : asg (.nam 7) (.int (i : Nat)) (wipe ρ [7]) = some ((wipe ρ [7]).set 7 (some (.int (i : Nat)))) := by
              show (if 7 < (wipe ρ [7]).length then _ else _) = _
              rw [if_pos (by simp [wipe, hρ])]
            have e7 : ((wipe ρ [7]).set 7 (some (Val.int (i : Nat))))[7]? = some (some (.int (i : Nat))) := List.getElem?_set_self (by simp [wipe, hρ])
            have e4 : ((wipe ρ [7]).set 7 (some (Val.int (i : Nat))))[4]? = some (some (.tup (ws.map .int))) := by
              rw [List.getElem?_set_ne (by decide)]
              show (ρ.set 7 none)[4]? = _
              rw [List.getElem?_set_ne (by decide)]
              exact h4
            refine ⟨nh, R.tOne ea ?_⟩
            (repeat (first | refine St.go ?_ | refine R.eVar rfl ?_ | refine ⟨_, rfl, ?_⟩ | refine R.sAug rfl ?_ | refine R.vSliT rfl rfl ?_ | refine R.vIsiNo rfl ?_ | refine R.vIsiBl rfl ?_ | refine R.vIsiIn rfl ?_ | refine R.vIsiSt rfl ?_ | refine R.vIsiTu rfl ?_ | refine R.ssCons ?_ | refine R.ssNil ?_ | refine R.w_iteT ?_ | refine R.w_iteF ?_))
            refine R.eVar e7 ?_
            (repeat (first | refine St.go ?_ | refine R.eVar rfl ?_ | refine ⟨_, rfl, ?_⟩ | refine R.sAug rfl ?_ | refine R.vSliT rfl rfl ?_ | refine R.vIsiNo rfl ?_ | refine R.vIsiBl rfl ?_ | refine R.vIsiIn rfl ?_ | refine R.vIsiSt rfl ?_ | refine R.vIsiTu rfl ?_ | refine R.ssCons ?_ | refine R.ssNil ?_ | refine R.w_iteT ?_ | refine R.w_iteF ?_))
            refine R.eVar e4 ?_
            (repeat (first | refine St.go ?_ | refine R.eVar rfl ?_ | refine ⟨_, rfl, ?_⟩ | refine R.sAug rfl ?_ | refine R.vSliT rfl rfl ?_ | refine R.vIsiNo rfl ?_ | refine R.vIsiBl rfl ?_ | refine R.vIsiIn rfl ?_ | refine R.vIsiSt rfl ?_ | refine R.vIsiTu rfl ?_ | refine R.ssCons ?_ | refine R.ssNil ?_ | refine R.w_iteT ?_ | refine R.w_iteF ?_))
            have et : ((l.take (k + 1)).map fun i => ws.getD i 0).sum = ((l.take k).map fun i => ws.getD i 0).sum + ws.getD i 0 := by
              rw [List.take_succ, e3, List.map_append]
              exact sum_snoc _ _
            cases hb : decide ((i : Int) < ((ws.map Val.int).length : Nat)) with
            | true =>
              have hb := of_decide_eq_true hb
              rw [List.length_map] at hb
              have hb : i < ws.length := by omega
              (repeat (first | refine St.go ?_ | refine R.eVar rfl ?_ | refine ⟨_, rfl, ?_⟩ | refine R.sAug rfl ?_ | refine R.vSliT rfl rfl ?_ | refine R.vIsiNo rfl ?_ | refine R.vIsiBl rfl ?_ | refine R.vIsiIn rfl ?_ | refine R.vIsiSt rfl ?_ | refine R.vIsiTu rfl ?_ | refine R.ssCons ?_ | refine R.ssNil ?_ | refine R.w_iteT ?_ | refine R.w_iteF ?_))
              refine R.eVar e4 ?_
              (repeat (first | refine St.go ?_ | refine R.eVar rfl ?_ | refine ⟨_, rfl, ?_⟩ | refine R.sAug rfl ?_ | refine R.vSliT rfl rfl ?_ | refine R.vIsiNo rfl ?_ | refine R.vIsiBl rfl ?_ | refine R.vIsiIn rfl ?_ | refine R.vIsiSt rfl ?_ | refine R.vIsiTu rfl ?_ | refine R.ssCons ?_ | refine R.ssNil ?_ | refine R.w_iteT ?_ | refine R.w_iteF ?_))
              refine R.eVar e7 ?_
              (repeat (first | refine St.go ?_ | refine R.eVar rfl ?_ | refine ⟨_, rfl, ?_⟩ | refine R.sAug rfl ?_ | refine R.vSliT rfl rfl ?_ | refine R.vIsiNo rfl ?_ | refine R.vIsiBl rfl ?_ | refine R.vIsiIn rfl ?_ | refine R.vIsiSt rfl ?_ | refine R.vIsiTu rfl ?_ | refine R.ssCons ?_ | refine R.ssNil ?_ | refine R.w_iteT ?_ | refine R.w_iteF ?_))
              refine R.vIdxT (v := .int (ws[i])) (atI_get (by rw [List.getElem?_map, List.getElem?_eq_getElem hb]; rfl)) ?_
              refine ⟨rfl, ns ++ [ws[i]], by simp, ?_⟩
              rw [sum_snoc, hns, et, List.getD_eq_getElem?_getD, List.getElem?_eq_getElem hb]
              rfl
            | false =>
              have hb := of_decide_eq_false hb
              rw [List.length_map] at hb
              have hb : ws.length ≤ i := by omega
              (repeat (first | refine St.go ?_ | refine R.eVar rfl ?_ | refine ⟨_, rfl, ?_⟩ | refine R.sAug rfl ?_ | refine R.vSliT rfl rfl ?_ | refine R.vIsiNo rfl ?_ | refine R.vIsiBl rfl ?_ | refine R.vIsiIn rfl ?_ | refine R.vIsiSt rfl ?_ | refine R.vIsiTu rfl ?_ | refine R.ssCons ?_ | refine R.ssNil ?_ | refine R.w_iteT ?_ | refine R.w_iteF ?_))
              refine ⟨rfl, ns, rfl, ?_⟩
              rw [hns, et, List.getD_eq_getElem?_getD, List.getElem?_eq_none hb]
              simp
        · rintro acc S' ⟨rfl, ns, rfl, hns⟩
          refine ⟨nh, rfl, ns, rfl, ?_⟩
          rw [hns, hs]
          congr 2
          rw [show (Walk.mk (l.map fun x => Val.int (x : Nat)) []).xs.length = l.length by simp, List.take_length]
      obtain ⟨_, i, hi, rfl⟩ | ⟨_, l, _, hl, hll, rfl⟩ | ⟨h, _⟩ := hP x a hp
      · (repeat (first | refine St.go ?_ | refine R.eVar rfl ?_ | refine ⟨_, rfl, ?_⟩ | refine R.sAug rfl ?_ | refine R.vSliT rfl rfl ?_ | refine R.vIsiNo rfl ?_ | refine R.vIsiBl rfl ?_ | refine R.vIsiIn rfl ?_ | refine R.vIsiSt rfl ?_ | refine R.vIsiTu rfl ?_ | refine R.ssCons ?_ | refine R.ssNil ?_ | refine R.w_iteT ?_ | refine R.w_iteF ?_))
        refine R.vIdxD (v := .int i) hn (by rw [hk]; exact hp) ?_
        (repeat (first | refine St.go ?_ | refine R.eVar rfl ?_ | refine ⟨_, rfl, ?_⟩ | refine R.sAug rfl ?_ | refine R.vSliT rfl rfl ?_ | refine R.vIsiNo rfl ?_ | refine R.vIsiBl rfl ?_ | refine R.vIsiIn rfl ?_ | refine R.vIsiSt rfl ?_ | refine R.vIsiTu rfl ?_ | refine R.ssCons ?_ | refine R.ssNil ?_ | refine R.w_iteT ?_ | refine R.w_iteF ?_))
        refine ⟨show 1 ≤ PySem.sizeLine by decide, R.w_mono (tail [i] _ (by simp) ?_ ?_ ?_ (by unfold ofS plc; simp)) ?_⟩
        · rfl
        · rfl
        · rfl
        rintro v S' ⟨rfl, ns, rfl, e⟩
        (repeat (first | refine St.go ?_ | refine R.eVar rfl ?_ | refine ⟨_, rfl, ?_⟩ | refine R.sAug rfl ?_ | refine R.vSliT rfl rfl ?_ | refine R.vIsiNo rfl ?_ | refine R.vIsiBl rfl ?_ | refine R.vIsiIn rfl ?_ | refine R.vIsiSt rfl ?_ | refine R.vIsiTu rfl ?_ | refine R.ssCons ?_ | refine R.ssNil ?_ | refine R.w_iteT ?_ | refine R.w_iteF ?_))
        exact ⟨by rw [e], rfl⟩
      · (repeat (first | refine St.go ?_ | refine R.eVar rfl ?_ | refine ⟨_, rfl, ?_⟩ | refine R.sAug rfl ?_ | refine R.vSliT rfl rfl ?_ | refine R.vIsiNo rfl ?_ | refine R.vIsiBl rfl ?_ | refine R.vIsiIn rfl ?_ | refine R.vIsiSt rfl ?_ | refine R.vIsiTu rfl ?_ | refine R.ssCons ?_ | refine R.ssNil ?_ | refine R.w_iteT ?_ | refine R.w_iteF ?_))
        refine R.vIdxD (v := .tup (l.map fun x => .int (x : Nat))) hn (by rw [hk]; exact hp) ?_
        (repeat (first | refine St.go ?_ | refine R.eVar rfl ?_ | refine ⟨_, rfl, ?_⟩ | refine R.sAug rfl ?_ | refine R.vSliT rfl rfl ?_ | refine R.vIsiNo rfl ?_ | refine R.vIsiBl rfl ?_ | refine R.vIsiIn rfl ?_ | refine R.vIsiSt rfl ?_ | refine R.vIsiTu rfl ?_ | refine R.ssCons ?_ | refine R.ssNil ?_ | refine R.w_iteT ?_ | refine R.w_iteF ?_))
        refine ⟨by simp only [List.length_map]; exact Nat.le_trans hll (by decide), R.w_mono (tail l _ hll ?_ ?_ ?_ (by unfold ofS; rw [plc_tup])) ?_⟩
        · rfl
        · rfl
        · rfl
        rintro v S' ⟨rfl, ns, rfl, e⟩
        (repeat (first | refine St.go ?_ | refine R.eVar rfl ?_ | refine ⟨_, rfl, ?_⟩ | refine R.sAug rfl ?_ | refine R.vSliT rfl rfl ?_ | refine R.vIsiNo rfl ?_ | refine R.vIsiBl rfl ?_ | refine R.vIsiIn rfl ?_ | refine R.vIsiSt rfl ?_ | refine R.vIsiTu rfl ?_ | refine R.ssCons ?_ | refine R.ssNil ?_ | refine R.w_iteT ?_ | refine R.w_iteF ?_))
        exact ⟨by rw [e], rfl⟩
      · rcases ok.1 with e | e <;> (rw [e] at h; cases h)
theorem parts_run (hv : Views D) (hP : POk T P) (hn : S[n]? = some (.dic kv)) (hk : ∀ x, dicGet kv (.inr x) = P x) : ∀ (ss : Prts) (m : Nat), ss.need ≤ m → ss.Ok T → ∀ (k : Nat) (x : Val), ss.vs[k]? = some x → ∃ y, (ss.pts P)[k]? = some y ∧ V ((K D glo scr gas m).call "part_of" [.loc n, x]) S fun v S' => v = .int y ∧ S' = S
  | .nil, _, _, _, k, x, hx => by cases hx
  | .cons s ss, m, h, ok, 0, x, hx => by
    have h : max s.need ss.need ≤ m := h
    cases hx
    exact ⟨_, rfl, part_run hv hP hn hk s m (by omega) ok.1⟩
  | .cons s ss, m, h, ok, k + 1, x, hx => by
    have h : max s.need ss.need ≤ m := h
    exact parts_run hv hP hn hk ss m (by omega) ok.2 k x hx
end
end
end G

end

section
set_option maxHeartbeats 1000000
set_option exponentiation.threshold 5000
/-! G7: the laws' own look at sentences. -/
namespace G
open Ev
open PySem (Str PyData)
abbrev Ps := List (Str × Val)
def pv (ps : Ps) : List Val := ps.map fun p => .tup [.str p.1, p.2]
def look (ps : Ps) (x : Str) : Option Val := (ps.find? fun p => decide (p.1 = x)).map (·.2)
abbrev F0 : Nat → Prop := fun _ => False
theorem filter_nd {x : Str} : ∀ {ps : Ps}, (ps.map (·.1)).Nodup → (ps.filter fun p => decide (p.1 = x)).map (·.2) = (look ps x).toList
  | [], _ => rfl
  | p :: ps, h => by
    rw [List.map_cons, List.nodup_cons] at h
    have ih := filter_nd (x := x) h.2
    unfold look at ih ⊢
    rw [List.filter_cons, List.find?_cons]
    by_cases hp : p.1 = x
    · have hn : ps.filter (fun p => decide (p.1 = x)) = [] := by
        rw [List.filter_eq_nil_iff]
        intro q hq
        have : q.1 ≠ x := fun z => h.1 (by rw [hp, ← z]; exact List.mem_map_of_mem hq)
        simp [this]
      simp [hp, hn]
    · simp [hp, ih]
theorem sum_pairs {x : Str} {g : Val → Int} : ∀ {ps : Ps}, (ps.map (·.1)).Nodup → (ps.map fun q => if q.1 = x then g q.2 else 0).sum = (match look ps x with | some a => g a | none => 0)
  | [], _ => rfl
  | p :: ps, h => by
    rw [List.map_cons, List.nodup_cons] at h
    have ih := sum_pairs (x := x) (g := g) h.2
    rw [List.map_cons, List.sum_cons, ih]
    unfold look
    rw [List.find?_cons]
    by_cases hp : p.1 = x
    · have hn : ps.find? (fun p => decide (p.1 = x)) = none := by
        rw [List.find?_eq_none]
        intro q hq
        have : q.1 ≠ x := fun z => h.1 (by rw [hp, ← z]; exact List.mem_map_of_mem hq)
        simp [this]
      simp [hp, hn]
    · simp [hp]
/-- the weights whose places stand in l -/
def FF (l : List Nat) : List Int → Nat → Int
  | [], _ => 0
  | w :: ws, o => (if o ∈ l then w else 0) + FF l ws (o + 1)
theorem FF_snoc {l : List Nat} {w : Int} : ∀ {ws : List Int} {o : Nat}, FF l (ws ++ [w]) o = FF l ws o + (if o + ws.length ∈ l then w else 0)
  | [], o => by simp [FF]
  | v :: ws, o => by
    show (if o ∈ l then v else 0) + FF l (ws ++ [w]) (o + 1) = (if o ∈ l then v else 0) + FF l ws (o + 1) + _
    rw [FF_snoc]
    have : o + 1 + ws.length = o + (v :: ws).length := by simp; omega
    rw [this]
    omega
theorem FF_cons {a : Nat} {l : List Nat} (ha : a ∉ l) : ∀ {ws : List Int} {o : Nat}, FF (a :: l) ws o = (if o ≤ a then ws.getD (a - o) 0 else 0) + FF l ws o
  | [], o => by simp [FF]
  | v :: ws, o => by
    show (if o ∈ a :: l then v else 0) + FF (a :: l) ws (o + 1) = _ + ((if o ∈ l then v else 0) + FF l ws (o + 1))
    rw [FF_cons ha]
    by_cases h1 : o = a
    · subst h1
      rw [if_neg (show ¬ (o + 1 ≤ o) by omega), if_pos (Nat.le_refl o), Nat.sub_self]
      simp [ha]
    · by_cases h2 : o ≤ a
      · have h3 : o + 1 ≤ a := by omega
        have h4 : a - o = (a - (o + 1)) + 1 := by omega
        rw [if_pos h2, if_pos h3, h4, List.getD_cons_succ]
        simp only [List.mem_cons, h1, false_or]
        omega
      · rw [if_neg h2, if_neg (show ¬ (o + 1 ≤ a) by omega)]
        simp only [List.mem_cons, h1, false_or]
        omega
theorem FF_eq {ws : List Int} : ∀ {l : List Nat}, l.Nodup → FF l ws 0 = (l.map fun i => ws.getD i 0).sum
  | [], _ => by
    have : ∀ (ws : List Int) (o : Nat), FF [] ws o = 0 := by
      intro ws
      induction ws with
      | nil => intro o; rfl
      | cons w ws ih => intro o; show (if o ∈ [] then w else 0) + FF [] ws (o + 1) = 0; rw [ih]; simp
    rw [this]; rfl
  | a :: l, h => by
    rw [List.nodup_cons] at h
    rw [FF_cons h.1, FF_eq h.2]
    simp
theorem count_nat {k : Int} : ∀ {l : List Nat}, l.Nodup → (dOfs (l.map fun x => Val.int (x : Nat))).countP (fun z => PyData.eqv z (.int k)) = if 0 ≤ k ∧ k.toNat ∈ l then 1 else 0
  | [], _ => by simp [dOfs]
  | a :: l, h => by
    rw [List.nodup_cons] at h
    have e : PyData.eqv (.int ((a : Nat) : Int)) (.int k) = decide (((a : Nat) : Int) = k) := by
      simp only [PyData.eqv]; rfl
    show List.countP _ (PyData.int ((a : Nat) : Int) :: dOfs (l.map fun x => Val.int (x : Nat))) = _
    rw [List.countP_cons, count_nat h.2, e]
    by_cases h1 : ((a : Nat) : Int) = k
    · have h2 : k.toNat = a := by omega
      have h3 : ¬ (0 ≤ k ∧ k.toNat ∈ l) := fun z => h.1 (h2 ▸ z.2)
      rw [if_neg h3, if_pos (decide_eq_true h1), if_pos ⟨by omega, by rw [h2]; simp⟩]
    · rw [if_neg (show ¬ (decide (((a : Nat) : Int) = k) = true) by rw [decide_eq_false h1]; decide), Nat.add_zero]
      by_cases h4 : 0 ≤ k
      · have h5 : ¬ k.toNat = a := fun z => h1 (by omega)
        by_cases h6 : k.toNat ∈ l
        · rw [if_pos ⟨h4, h6⟩, if_pos ⟨h4, List.mem_cons_of_mem _ h6⟩]
        · rw [if_neg (fun z => h6 z.2), if_neg (fun z => by rcases List.mem_cons.mp z.2 with z | z; exact h5 z; exact h6 z)]
      · rw [if_neg (fun z => h4 z.1), if_neg (fun z => h4 z.1)]
def bInner : Sxs := .cons (.ifs (.and (.cmp .Eq (.var 3) (.str "times")) (.cmp .Eq (.var 6) (.var 4))) (.cons (.aug 2 .Add (.bin .Mult (.var 5) (.var 7))) .nil) .nil) (.cons (.ifs (.and (.cmp .Eq (.var 3) (.str "of")) (.cmp .Eq (.var 6) (.var 4))) (.cons (.set (.nam 8) (.ite (.bi "isinstance" (.cons (.var 7) (.cons (.ty "tuple") .nil))) (.var 7) (.tup (.cons (.var 7) .nil)))) (.cons (.aug 2 .Add (.sq "sum" (.com [9, 10] (.tup (.cons (.nam 9) (.cons (.nam 10) .nil))) (.enum (.var 5)) (.cmp .In (.var 9) (.var 8)) (.var 10)))) .nil)) .nil) .nil)
def bLB : Sxs := .cons (.ifs (.cmp .Eq (.var 3) (.str "where")) (.cons (.aug 2 .Add (.bin .Mult (.var 5) (.call "_law_so" (.cons (.var 0) (.cons (.var 4) .nil))))) .nil) .nil) (.cons (.for_ (.tup (.cons (.nam 6) (.cons (.nam 7) .nil))) (.seq (.var 0)) bInner) .nil)
theorem bLsum_eq : bLsum = .cons (.set (.nam 2) (.idx (.var 1) (.int 0))) (.cons (.for_ (.tup (.cons (.nam 3) (.cons (.nam 4) (.cons (.nam 5) .nil)))) (.seq (.idx (.var 1) (.int 1))) bLB) (.cons (.ret (.var 2)) .nil)) := rfl
section
variable {C : Ctx} {S : Sto} {ps : Ps}
abbrev ev11 (ps : Ps) (tm : Val) (told : Int) (wd th wt : Val) (o6 o7 o8 o9 o10 : Option Val) : Env := [some (.tup (pv ps)), some tm, some (.int told), some wd, some th, some wt, o6, o7, o8, o9, o10]
theorem inner {tm wd th wt : Val} {c : Str × Val → Int} (step : ∀ q ∈ ps, ∀ (told : Int) o8 o9 o10 S, V (xSs C bInner (ev11 ps tm told wd th wt (some (.str q.1)) (some q.2) o8 o9 o10)) S fun fl S' => Fr F0 S S' ∧ ∃ o8 o9 o10, fl = .nx (ev11 ps tm (told + c q) wd th wt (some (.str q.1)) (some q.2) o8 o9 o10)) {told : Int} {o6 o7 o8 o9 o10 : Option Val} :
    V (xFor ⟨pv ps, []⟩ (.tup (.cons (.nam 6) (.cons (.nam 7) .nil))) (xSs C bInner) (pv ps) (ev11 ps tm told wd th wt o6 o7 o8 o9 o10)) S fun fl S' => Fr F0 S S' ∧ ∃ o6 o7 o8 o9 o10, fl = .nx (ev11 ps tm (told + (ps.map c).sum) wd th wt o6 o7 o8 o9 o10) := by
  refine R.w_for (w := ⟨pv ps, []⟩) (I := fun k ρ S' => Fr F0 S S' ∧ ∃ t : Int, t = told + ((ps.take k).map c).sum ∧ ∃ o6 o7 o8 o9 o10, ρ = ev11 ps tm t wd th wt o6 o7 o8 o9 o10) ?_ ?_ ⟨Fr.refl, told, by simp, _, _, _, _, _, rfl⟩
  · rintro k x ρ S' hk ⟨fr, t, ht, o6, o7, o8, o9, o10, rfl⟩
    have hk : (pv ps)[k]? = some x := hk
    unfold pv at hk
    rw [List.getElem?_map] at hk
    cases e3 : ps[k]? with
    | none => rw [e3] at hk; cases hk
    | some q =>
      rw [e3] at hk
      cases hk
      refine ⟨nh, _, rfl, ?_⟩
      refine R.w_mono (step q (List.mem_of_getElem? e3) _ _ _ _ _) ?_
      rintro fl S2 ⟨fr2, p8, p9, p10, rfl⟩
      refine ⟨fr.trans fr2, _, ?_, _, _, _, _, _, rfl⟩
      rw [List.take_succ, e3, List.map_append]
      rw [show (List.map c (some q).toList) = [c q] from rfl, sum_snoc, ← Int.add_assoc, ht]
  · rintro ρ S' ⟨fr, t, ht, o6, o7, o8, o9, o10, rfl⟩
    rw [show (Walk.mk (pv ps) []).xs.length = ps.length by simp [pv], List.take_length] at ht
    rw [← ht]
    exact ⟨nh, fr, _, _, _, _, _, rfl⟩
end
/-- the law's own weighing of one answer -/
theorem weigh {C : Ctx} {S : Sto} {ws : List Int} {l : List Nat} {ρ : Env} (hl : ∀ x ∈ l, x < 64) (hll : l.length ≤ 64) (hws : ws.length ≤ 64) (nd : l.Nodup) (hρ : ρ.length = 11) (h8 : ρ[8]? = some (some (.tup (l.map fun x => .int (x : Nat))))) :
    V (xCom ⟨(ws.map Val.int).zipIdx.map fun p => .tup [.int (p.2 : Nat), p.1], []⟩ (xTurn C [9, 10] (.tup (.cons (.nam 9) (.cons (.nam 10) .nil))) (.cmp .In (.var 9) (.var 8)) (.var 10) ρ) ((ws.map Val.int).zipIdx.map fun p => .tup [.int (p.2 : Nat), p.1])) S fun ys S' => S' = S ∧ ∃ ns : List Int, ys = ns.map Val.int ∧ ns.sum = (l.map fun i => ws.getD i 0).sum := by
  refine R.w_com (w := ⟨(ws.map Val.int).zipIdx.map fun p => .tup [.int (p.2 : Nat), p.1], []⟩) (I := fun k acc S' => S' = S ∧ ∃ ns : List Int, acc = ns.map Val.int ∧ ns.sum = FF l (ws.take k) 0) ?_ ?_ ⟨rfl, [], rfl, rfl⟩
  · rintro k y acc S' hk ⟨rfl, ns, rfl, hns⟩
    have hk : ((ws.map Val.int).zipIdx.map fun p => Val.tup [.int (p.2 : Nat), p.1])[k]? = some y := hk
    rw [List.getElem?_map, List.getElem?_zipIdx, List.getElem?_map] at hk
    cases e3 : ws[k]? with
    | none => rw [e3] at hk; cases hk
    | some w =>
      rw [e3] at hk
      cases hk
      have hkl : k < ws.length := (List.getElem?_eq_some_iff.mp e3).1
      rw [Nat.zero_add]
      have ea : asg (.tup (.cons (.nam 9) (.cons (.nam 10) .nil))) (.tup [.int (k : Nat), .int w]) (wipe ρ [9, 10]) = some (((wipe ρ [9, 10]).set 9 (some (.int (k : Nat)))).set 10 (some (.int w))) := by
        show (match (if 9 < (wipe ρ [9, 10]).length then some ((wipe ρ [9, 10]).set 9 (some (Val.int (k : Nat)))) else none) with | some ρ' => (match (if 10 < ρ'.length then some (ρ'.set 10 (some (Val.int w))) else none) with | some ρ' => some ρ' | none => none) | none => none) = _
        rw [if_pos (by simp [wipe, hρ])]
        dsimp only
        rw [if_pos (by simp [wipe, hρ])]
      generalize hρ' : ((wipe ρ [9, 10]).set 9 (some (Val.int (k : Nat)))).set 10 (some (.int w)) = ρ' at ea
      have e9 : ρ'[9]? = some (some (.int (k : Nat))) := by
        rw [← hρ', List.getElem?_set_ne (by decide), List.getElem?_set_self (by simp [wipe, hρ])]
      have e10 : ρ'[10]? = some (some (.int w)) := by
        rw [← hρ', List.getElem?_set_self (by simp [wipe, hρ])]
      have e8 : ρ'[8]? = some (some (.tup (l.map fun x => .int (x : Nat)))) := by
        rw [← hρ', List.getElem?_set_ne (by decide), List.getElem?_set_ne (by decide)]
        show ((ρ.set 10 none).set 9 none)[8]? = _
        rw [List.getElem?_set_ne (by decide), List.getElem?_set_ne (by decide)]
        exact h8
      refine ⟨nh, R.tOne ea ?_⟩
      (repeat (first | refine St.go ?_ | refine R.eVar rfl ?_ | refine ⟨_, rfl, ?_⟩ | refine R.sAug rfl ?_ | refine R.vSliT rfl rfl ?_ | refine R.vIsiNo rfl ?_ | refine R.vIsiBl rfl ?_ | refine R.vIsiIn rfl ?_ | refine R.vIsiSt rfl ?_ | refine R.vIsiTu rfl ?_ | refine R.ssCons ?_ | refine R.ssNil ?_ | refine R.w_iteT ?_ | refine R.w_iteF ?_))
      refine R.eVar e9 ?_
      (repeat (first | refine St.go ?_ | refine R.eVar rfl ?_ | refine ⟨_, rfl, ?_⟩ | refine R.sAug rfl ?_ | refine R.vSliT rfl rfl ?_ | refine R.vIsiNo rfl ?_ | refine R.vIsiBl rfl ?_ | refine R.vIsiIn rfl ?_ | refine R.vIsiSt rfl ?_ | refine R.vIsiTu rfl ?_ | refine R.ssCons ?_ | refine R.ssNil ?_ | refine R.w_iteT ?_ | refine R.w_iteF ?_))
      refine R.eVar e8 ?_
      have pt := PF.tup (pf_nats hl)
      have pi := PF.int (i := (k : Nat)) (small63 (by omega) (by omega))
      refine R.vInT (X := fun _ => False) (Y := fun _ => False) (pi.rd _ _) (pt.rd _ _) pi.ft pt.ft (by decide) (by decide) ?_
      rw [show dOf (.int (k : Nat)) = .int (k : Nat) from rfl, any_nat]
      (repeat (first | refine St.go ?_ | refine R.eVar rfl ?_ | refine ⟨_, rfl, ?_⟩ | refine R.sAug rfl ?_ | refine R.vSliT rfl rfl ?_ | refine R.vIsiNo rfl ?_ | refine R.vIsiBl rfl ?_ | refine R.vIsiIn rfl ?_ | refine R.vIsiSt rfl ?_ | refine R.vIsiTu rfl ?_ | refine R.ssCons ?_ | refine R.ssNil ?_ | refine R.w_iteT ?_ | refine R.w_iteF ?_))
      have et : FF l (ws.take (k + 1)) 0 = FF l (ws.take k) 0 + (if k ∈ l then w else 0) := by
        rw [List.take_succ, e3]
        rw [show (some w).toList = [w] from rfl, FF_snoc, List.length_take, Nat.zero_add, Nat.min_eq_left (by omega)]
      cases hb : decide (0 ≤ ((k : Nat) : Int) ∧ ((k : Nat) : Int).toNat ∈ l) with
      | true =>
        have hb := (of_decide_eq_true hb).2
        rw [Int.toNat_natCast] at hb
        (repeat (first | refine St.go ?_ | refine R.eVar rfl ?_ | refine ⟨_, rfl, ?_⟩ | refine R.sAug rfl ?_ | refine R.vSliT rfl rfl ?_ | refine R.vIsiNo rfl ?_ | refine R.vIsiBl rfl ?_ | refine R.vIsiIn rfl ?_ | refine R.vIsiSt rfl ?_ | refine R.vIsiTu rfl ?_ | refine R.ssCons ?_ | refine R.ssNil ?_ | refine R.w_iteT ?_ | refine R.w_iteF ?_))
        refine R.eVar e10 ?_
        refine ⟨rfl, ns ++ [w], by simp, ?_⟩
        rw [sum_snoc, hns, et, if_pos hb]
      | false =>
        have hb := of_decide_eq_false hb
        have hb : k ∉ l := fun z => hb ⟨by omega, by rw [Int.toNat_natCast]; exact z⟩
        (repeat (first | refine St.go ?_ | refine R.eVar rfl ?_ | refine ⟨_, rfl, ?_⟩ | refine R.sAug rfl ?_ | refine R.vSliT rfl rfl ?_ | refine R.vIsiNo rfl ?_ | refine R.vIsiBl rfl ?_ | refine R.vIsiIn rfl ?_ | refine R.vIsiSt rfl ?_ | refine R.vIsiTu rfl ?_ | refine R.ssCons ?_ | refine R.ssNil ?_ | refine R.w_iteT ?_ | refine R.w_iteF ?_))
        refine ⟨rfl, ns, rfl, ?_⟩
        rw [hns, et, if_neg hb]
        omega
  · rintro acc S' ⟨rfl, ns, rfl, hns⟩
    refine ⟨nh, rfl, ns, rfl, ?_⟩
    rw [hns, show (Walk.mk ((ws.map Val.int).zipIdx.map fun p => Val.tup [.int (p.2 : Nat), p.1]) []).xs.length = ws.length by simp, List.take_length]
    exact FF_eq nd
structure Lso (D : List Fn) : Prop where
  so : Has D "_law_so" bLso 2 10
  sum : Has D "_law_sum" bLsum 2 11
section
variable {D : List Fn} {glo : Str → Option Val} {scr : List Int} {gas : Nat} {T : Str → Nat} {ps : Ps}
def b2i (b : Bool) : Int := if b then 1 else 0
theorem lsum_run (hv : Lso D) {m : Nat} {b : Int} {pr : Prts} {S : Sto} (hp : ∀ (k : Nat) (x : Val), pr.vs[k]? = some x → ∃ y wd th wt, (pr.pts (look ps))[k]? = some y ∧ x = .tup [wd, th, wt] ∧ ∀ (tm : Val) (told : Int) o6 o7 o8 o9 o10 S, V (xSs (K D glo scr gas m) bLB (ev11 ps tm told wd th wt o6 o7 o8 o9 o10)) S fun fl S' => Fr F0 S S' ∧ ∃ o6 o7 o8 o9 o10, fl = .nx (ev11 ps tm (told + y) wd th wt o6 o7 o8 o9 o10)) :
    V ((K D glo scr gas (m + 1)).call "_law_sum" [.tup (pv ps), .tup [.int b, .tup pr.vs]]) S fun v S' => v = .int (b + (pr.pts (look ps)).sum) ∧ Fr F0 S S' := by
  refine call_at hv.sum rfl ?_
  rw [bLsum_eq]
  (repeat (first | refine St.go ?_ | refine R.eVar rfl ?_ | refine ⟨_, rfl, ?_⟩ | refine R.sAug rfl ?_ | refine R.vSliT rfl rfl ?_ | refine R.vIsiNo rfl ?_ | refine R.vIsiBl rfl ?_ | refine R.vIsiIn rfl ?_ | refine R.vIsiSt rfl ?_ | refine R.vIsiTu rfl ?_ | refine R.ssCons ?_ | refine R.ssNil ?_ | refine R.w_iteT ?_ | refine R.w_iteF ?_))
  refine R.vIdxT rfl ?_
  (repeat (first | refine St.go ?_ | refine R.eVar rfl ?_ | refine ⟨_, rfl, ?_⟩ | refine R.sAug rfl ?_ | refine R.vSliT rfl rfl ?_ | refine R.vIsiNo rfl ?_ | refine R.vIsiBl rfl ?_ | refine R.vIsiIn rfl ?_ | refine R.vIsiSt rfl ?_ | refine R.vIsiTu rfl ?_ | refine R.ssCons ?_ | refine R.ssNil ?_ | refine R.w_iteT ?_ | refine R.w_iteF ?_))
  refine R.vIdxT rfl ?_
  (repeat (first | refine St.go ?_ | refine R.eVar rfl ?_ | refine ⟨_, rfl, ?_⟩ | refine R.sAug rfl ?_ | refine R.vSliT rfl rfl ?_ | refine R.vIsiNo rfl ?_ | refine R.vIsiBl rfl ?_ | refine R.vIsiIn rfl ?_ | refine R.vIsiSt rfl ?_ | refine R.vIsiTu rfl ?_ | refine R.ssCons ?_ | refine R.ssNil ?_ | refine R.w_iteT ?_ | refine R.w_iteF ?_))
  refine R.w_for (I := fun k ρ S' => Fr F0 S S' ∧ ∃ t : Int, t = b + ((pr.pts (look ps)).take k).sum ∧ ∃ o3 o4 o5 o6 o7 o8 o9 o10, ρ = [some (.tup (pv ps)), some (.tup [.int b, .tup pr.vs]), some (.int t), o3, o4, o5, o6, o7, o8, o9, o10]) ?_ ?_ ⟨Fr.refl, b, by simp, _, _, _, _, _, _, _, _, rfl⟩
  · rintro k x ρ S' hk ⟨fr, t, ht, o3, o4, o5, o6, o7, o8, o9, o10, rfl⟩
    obtain ⟨y, wd, th, wt, e, rfl, hx⟩ := hp k x hk
    refine ⟨nh, _, rfl, ?_⟩
    refine R.w_mono (hx _ _ _ _ _ _ _ _) ?_
    rintro fl S2 ⟨fr2, p6, p7, p8, p9, p10, rfl⟩
    refine ⟨fr.trans fr2, _, ?_, _, _, _, _, _, _, _, _, rfl⟩
    rw [List.take_succ, e, show (some y).toList = [y] from rfl, sum_snoc, ← Int.add_assoc, ht]
  · rintro ρ S' ⟨fr, t, ht, o3, o4, o5, o6, o7, o8, o9, o10, rfl⟩
    refine ⟨nh, ?_⟩
    (repeat (first | refine St.go ?_ | refine R.eVar rfl ?_ | refine ⟨_, rfl, ?_⟩ | refine R.sAug rfl ?_ | refine R.vSliT rfl rfl ?_ | refine R.vIsiNo rfl ?_ | refine R.vIsiBl rfl ?_ | refine R.vIsiIn rfl ?_ | refine R.vIsiSt rfl ?_ | refine R.vIsiTu rfl ?_ | refine R.ssCons ?_ | refine R.ssNil ?_ | refine R.w_iteT ?_ | refine R.w_iteF ?_))
    refine ⟨?_, fr⟩
    rw [ht, show (Walk.mk pr.vs []).xs.length = (pr.pts (look ps)).length from (pts_len pr).symm, List.take_length]
end
end G

end

section
set_option maxHeartbeats 1000000
set_option exponentiation.threshold 5000
/-! G8: the laws' own look at sentences: all of it. -/
namespace G
open Ev
open PySem (Str PyData)
def timesV (w : Int) : Val → Int
  | .int i => w * i
  | _ => 0
theorem look_mem {ps : Ps} (nd : (ps.map (·.1)).Nodup) {q : Str × Val} (h : q ∈ ps) : look ps q.1 = some q.2 := by
  unfold look
  rw [find_nd nd h]
  rfl
theorem foundR {C : Ctx} {S : Sto} {ps : Ps} {x : Str} {ρ : Env} (nd : (ps.map (·.1)).Nodup) (hρ : ρ.length = 10) (h3 : ρ[3]? = some (some (.str x))) :
    V (xCom ⟨pv ps, []⟩ (xTurn C [8, 9] (.tup (.cons (.nam 8) (.cons (.nam 9) .nil))) (.cmp .Eq (.var 8) (.var 3)) (.var 9) ρ) (pv ps)) S fun ys S' => S' = S ∧ ys = (look ps x).toList := by
  refine R.w_com (w := ⟨pv ps, []⟩) (I := fun k acc S' => S' = S ∧ acc = ((ps.take k).filter fun p => decide (p.1 = x)).map (·.2)) ?_ ?_ ⟨rfl, rfl⟩
  · rintro k y acc S' hk ⟨rfl, rfl⟩
    have hk : (pv ps)[k]? = some y := hk
    unfold pv at hk
    rw [List.getElem?_map] at hk
    cases e3 : ps[k]? with
    | none => rw [e3] at hk; cases hk
    | some q =>
      rw [e3] at hk
      cases hk
      have ea : asg (.tup (.cons (.nam 8) (.cons (.nam 9) .nil))) (.tup [.str q.1, q.2]) (wipe ρ [8, 9]) = some (((wipe ρ [8, 9]).set 8 (some (.str q.1))).set 9 (some q.2)) := by
        show (match (if 8 < (wipe ρ [8, 9]).length then some ((wipe ρ [8, 9]).set 8 (some (Val.str q.1))) else none) with | some ρ' => (match (if 9 < ρ'.length then some (ρ'.set 9 (some q.2)) else none) with | some ρ' => some ρ' | none => none) | none => none) = _
        rw [if_pos (by simp [wipe, hρ])]
        dsimp only
        rw [if_pos (by simp [wipe, hρ])]
      generalize hρ' : ((wipe ρ [8, 9]).set 8 (some (Val.str q.1))).set 9 (some q.2) = ρ' at ea
      have e8 : ρ'[8]? = some (some (.str q.1)) := by
        rw [← hρ', List.getElem?_set_ne (by decide), List.getElem?_set_self (by simp [wipe, hρ])]
      have e9 : ρ'[9]? = some (some q.2) := by
        rw [← hρ', List.getElem?_set_self (by simp [wipe, hρ])]
      have e3' : ρ'[3]? = some (some (.str x)) := by
        rw [← hρ', List.getElem?_set_ne (by decide), List.getElem?_set_ne (by decide)]
        show ((ρ.set 9 none).set 8 none)[3]? = _
        rw [List.getElem?_set_ne (by decide), List.getElem?_set_ne (by decide)]
        exact h3
      refine ⟨nh, R.tOne ea ?_⟩
      (repeat (first | refine St.go ?_ | refine R.eVar rfl ?_ | refine ⟨_, rfl, ?_⟩ | refine R.sAug rfl ?_ | refine R.vSliT rfl rfl ?_ | refine R.vIsiNo rfl ?_ | refine R.vIsiBl rfl ?_ | refine R.vIsiIn rfl ?_ | refine R.vIsiSt rfl ?_ | refine R.vIsiTu rfl ?_ | refine R.ssCons ?_ | refine R.ssNil ?_ | refine R.w_iteT ?_ | refine R.w_iteF ?_))
      refine R.eVar e8 ?_
      (repeat (first | refine St.go ?_ | refine R.eVar rfl ?_ | refine ⟨_, rfl, ?_⟩ | refine R.sAug rfl ?_ | refine R.vSliT rfl rfl ?_ | refine R.vIsiNo rfl ?_ | refine R.vIsiBl rfl ?_ | refine R.vIsiIn rfl ?_ | refine R.vIsiSt rfl ?_ | refine R.vIsiTu rfl ?_ | refine R.ssCons ?_ | refine R.ssNil ?_ | refine R.w_iteT ?_ | refine R.w_iteF ?_))
      refine R.eVar e3' ?_
      (repeat (first | refine St.go ?_ | refine R.eVar rfl ?_ | refine ⟨_, rfl, ?_⟩ | refine R.sAug rfl ?_ | refine R.vSliT rfl rfl ?_ | refine R.vIsiNo rfl ?_ | refine R.vIsiBl rfl ?_ | refine R.vIsiIn rfl ?_ | refine R.vIsiSt rfl ?_ | refine R.vIsiTu rfl ?_ | refine R.ssCons ?_ | refine R.ssNil ?_ | refine R.w_iteT ?_ | refine R.w_iteF ?_))
      cases hb : decide (q.1 = x) with
      | true =>
        (repeat (first | refine St.go ?_ | refine R.eVar rfl ?_ | refine ⟨_, rfl, ?_⟩ | refine R.sAug rfl ?_ | refine R.vSliT rfl rfl ?_ | refine R.vIsiNo rfl ?_ | refine R.vIsiBl rfl ?_ | refine R.vIsiIn rfl ?_ | refine R.vIsiSt rfl ?_ | refine R.vIsiTu rfl ?_ | refine R.ssCons ?_ | refine R.ssNil ?_ | refine R.w_iteT ?_ | refine R.w_iteF ?_))
        refine R.eVar e9 ?_
        refine ⟨rfl, ?_⟩
        rw [List.take_succ, e3, List.filter_append, List.map_append]
        congr 1
        show _ = List.map _ (List.filter _ [q])
        rw [List.filter_cons, if_pos (by exact hb)]
        rfl
      | false =>
        (repeat (first | refine St.go ?_ | refine R.eVar rfl ?_ | refine ⟨_, rfl, ?_⟩ | refine R.sAug rfl ?_ | refine R.vSliT rfl rfl ?_ | refine R.vIsiNo rfl ?_ | refine R.vIsiBl rfl ?_ | refine R.vIsiIn rfl ?_ | refine R.vIsiSt rfl ?_ | refine R.vIsiTu rfl ?_ | refine R.ssCons ?_ | refine R.ssNil ?_ | refine R.w_iteT ?_ | refine R.w_iteF ?_))
        refine ⟨rfl, ?_⟩
        rw [List.take_succ, e3, List.filter_append, List.map_append]
        show _ = _ ++ List.map _ (List.filter _ [q])
        rw [List.filter_cons, if_neg (by rw [hb]; decide)]
        simp
  · rintro acc S' ⟨rfl, rfl⟩
    refine ⟨nh, rfl, ?_⟩
    rw [show (Walk.mk (pv ps) []).xs.length = ps.length by simp [pv], List.take_length]
    exact filter_nd nd
section
variable {D : List Fn} {glo : Str → Option Val} {scr : List Int} {gas : Nat} {T : Str → Nat} {ps : Ps}
/-- the pairs that are handed in -/
structure PsOk (T : Str → Nat) (ps : Ps) : Prop where
  nd : (ps.map (·.1)).Nodup
  ok : POk T (look ps)
  len : ps.length ≤ 100
theorem PsOk.pl (h : PsOk T ps) : (pv ps).length ≤ PySem.sizeLine := by
  have := h.len
  unfold pv
  rw [List.length_map]
  exact Nat.le_trans this (by decide)
theorem PsOk.ans (h : PsOk T ps) {q : Str × Val} (hq : q ∈ ps) : AnsS (T q.1) q.2 := h.ok q.1 q.2 (look_mem h.nd hq)
/-- all or any: the product -/
theorem ltold {m : Nat} {ss : Sens} {w : Bool} {wd : Val} {sv : Val} {S : Sto} {o6 o7 o8 o9 : Option Val} (hs : ∀ (k : Nat) (x : Val), ss.vs[k]? = some x → ∃ y, (ss.bs (look ps))[k]? = some y ∧ ∀ S, V ((K D glo scr gas m).call "_law_so" [.tup (pv ps), x]) S fun v S' => v = .int (b2i y) ∧ Fr F0 S S') :
    V (xFor ⟨ss.vs, []⟩ (.nam 6) (xSs (K D glo scr gas m) (.cons (.set (.nam 5) (.bin .Mult (.var 5) (.bi "int" (.cons (.cmp .Eq (.call "_law_so" (.cons (.var 0) (.cons (.var 6) .nil))) (.var 4)) .nil)))) .nil)) ss.vs [some (.tup (pv ps)), some sv, some wd, some (.tup ss.vs), some (.int (b2i w)), some (.int 1), o6, o7, o8, o9]) S
      fun fl S' => Fr F0 S S' ∧ ∃ t : Int, t = b2i ((ss.bs (look ps)).all fun b => b == w) ∧ ∃ o6, fl = .nx [some (.tup (pv ps)), some sv, some wd, some (.tup ss.vs), some (.int (b2i w)), some (.int t), o6, o7, o8, o9] := by
  refine R.w_for (w := ⟨ss.vs, []⟩) (I := fun k ρ S' => Fr F0 S S' ∧ ∃ t : Int, t = b2i (((ss.bs (look ps)).take k).all fun b => b == w) ∧ ∃ o6, ρ = [some (.tup (pv ps)), some sv, some wd, some (.tup ss.vs), some (.int (b2i w)), some (.int t), o6, o7, o8, o9]) ?_ ?_ ⟨Fr.refl, 1, rfl, _, rfl⟩
  · rintro k x ρ S' hk ⟨fr, t, ht, o6, rfl⟩
    obtain ⟨y, e, hx⟩ := hs k x hk
    refine ⟨nh, _, rfl, ?_⟩
    (repeat (first | refine St.go ?_ | refine R.eVar rfl ?_ | refine ⟨_, rfl, ?_⟩ | refine R.sAug rfl ?_ | refine R.vSliT rfl rfl ?_ | refine R.vIsiNo rfl ?_ | refine R.vIsiBl rfl ?_ | refine R.vIsiIn rfl ?_ | refine R.vIsiSt rfl ?_ | refine R.vIsiTu rfl ?_ | refine R.ssCons ?_ | refine R.ssNil ?_ | refine R.w_iteT ?_ | refine R.w_iteF ?_))
    refine R.w_mono (hx S') ?_
    rintro v S2 ⟨rfl, fr2⟩
    (repeat (first | refine St.go ?_ | refine R.eVar rfl ?_ | refine ⟨_, rfl, ?_⟩ | refine R.sAug rfl ?_ | refine R.vSliT rfl rfl ?_ | refine R.vIsiNo rfl ?_ | refine R.vIsiBl rfl ?_ | refine R.vIsiIn rfl ?_ | refine R.vIsiSt rfl ?_ | refine R.vIsiTu rfl ?_ | refine R.ssCons ?_ | refine R.ssNil ?_ | refine R.w_iteT ?_ | refine R.w_iteF ?_))
    refine R.vMul (mulOk_of ?_ ?_) ?_
    · rw [ht]; apply small4 <;> (unfold b2i; split <;> omega)
    · apply small4 <;> (split <;> omega)
    (repeat (first | refine St.go ?_ | refine R.eVar rfl ?_ | refine ⟨_, rfl, ?_⟩ | refine R.sAug rfl ?_ | refine R.vSliT rfl rfl ?_ | refine R.vIsiNo rfl ?_ | refine R.vIsiBl rfl ?_ | refine R.vIsiIn rfl ?_ | refine R.vIsiSt rfl ?_ | refine R.vIsiTu rfl ?_ | refine R.ssCons ?_ | refine R.ssNil ?_ | refine R.w_iteT ?_ | refine R.w_iteF ?_))
    refine ⟨fr.trans fr2, _, ?_, _, rfl⟩
    rw [List.take_succ, e, List.all_append, ht]
    show b2i _ * _ = b2i (_ && ([y].all fun b => b == w))
    have e5 : decide (b2i y = b2i w) = (y == w) := by cases y <;> cases w <;> rfl
    rw [e5]
    cases ((ss.bs (look ps)).take k).all fun b => b == w <;> cases hyw : (y == w) <;> simp [b2i, hyw]
  · rintro ρ S' ⟨fr, t, ht, o6, rfl⟩
    refine ⟨nh, fr, t, ?_, _, rfl⟩
    rw [ht, show (Walk.mk ss.vs []).xs.length = (ss.bs (look ps)).length from (bs_len ss).symm, List.take_length]
mutual
theorem lso_run (hv : Lso D) (hp : PsOk T ps) : ∀ (s : Sen) (m : Nat) (S : Sto), s.need ≤ m → s.Ok T → V ((K D glo scr gas m).call "_law_so" [.tup (pv ps), s.v]) S fun v S' => v = .int (b2i (s.so (look ps))) ∧ Fr F0 S S'
  | .given x, 0, S, h, _ => absurd h (show ¬ 1 ≤ 0 by omega)
  | .given x, m + 1, S, _, _ => by
    refine call_at hv.so rfl ?_
    unfold Sen.v
    (repeat (first | refine St.go ?_ | refine R.eVar rfl ?_ | refine ⟨_, rfl, ?_⟩ | refine R.sAug rfl ?_ | refine R.vSliT rfl rfl ?_ | refine R.vIsiNo rfl ?_ | refine R.vIsiBl rfl ?_ | refine R.vIsiIn rfl ?_ | refine R.vIsiSt rfl ?_ | refine R.vIsiTu rfl ?_ | refine R.ssCons ?_ | refine R.ssNil ?_ | refine R.w_iteT ?_ | refine R.w_iteF ?_))
    refine R.vIdxT rfl ?_
    (repeat (first | refine St.go ?_ | refine R.eVar rfl ?_ | refine ⟨_, rfl, ?_⟩ | refine R.sAug rfl ?_ | refine R.vSliT rfl rfl ?_ | refine R.vIsiNo rfl ?_ | refine R.vIsiBl rfl ?_ | refine R.vIsiIn rfl ?_ | refine R.vIsiSt rfl ?_ | refine R.vIsiTu rfl ?_ | refine R.ssCons ?_ | refine R.ssNil ?_ | refine R.w_iteT ?_ | refine R.w_iteF ?_))
    refine R.vIdxT rfl ?_
    (repeat (first | refine St.go ?_ | refine R.eVar rfl ?_ | refine ⟨_, rfl, ?_⟩ | refine R.sAug rfl ?_ | refine R.vSliT rfl rfl ?_ | refine R.vIsiNo rfl ?_ | refine R.vIsiBl rfl ?_ | refine R.vIsiIn rfl ?_ | refine R.vIsiSt rfl ?_ | refine R.vIsiTu rfl ?_ | refine R.ssCons ?_ | refine R.ssNil ?_ | refine R.w_iteT ?_ | refine R.w_iteF ?_))
    refine ⟨hp.pl, R.w_mono (foundR (x := x) hp.nd ?_ ?_) ?_⟩
    · rfl
    · rfl
    rintro ys S' ⟨rfl, rfl⟩
    (repeat (first | refine St.go ?_ | refine R.eVar rfl ?_ | refine ⟨_, rfl, ?_⟩ | refine R.sAug rfl ?_ | refine R.vSliT rfl rfl ?_ | refine R.vIsiNo rfl ?_ | refine R.vIsiBl rfl ?_ | refine R.vIsiIn rfl ?_ | refine R.vIsiSt rfl ?_ | refine R.vIsiTu rfl ?_ | refine R.ssCons ?_ | refine R.ssNil ?_ | refine R.w_iteT ?_ | refine R.w_iteF ?_))
    refine R.vLenL (List.getElem?_concat_length (l := S') (a := Ob.lst (look ps x).toList)) ?_
    (repeat (first | refine St.go ?_ | refine R.eVar rfl ?_ | refine ⟨_, rfl, ?_⟩ | refine R.sAug rfl ?_ | refine R.vSliT rfl rfl ?_ | refine R.vIsiNo rfl ?_ | refine R.vIsiBl rfl ?_ | refine R.vIsiIn rfl ?_ | refine R.vIsiSt rfl ?_ | refine R.vIsiTu rfl ?_ | refine R.ssCons ?_ | refine R.ssNil ?_ | refine R.w_iteT ?_ | refine R.w_iteF ?_))
    refine ⟨?_, Fr.alloc⟩
    unfold Sen.so b2i
    cases look ps x <;> rfl
  | .is x k, 0, S, h, _ => absurd h (show ¬ 1 ≤ 0 by omega)
  | .is x k, m + 1, S, _, ok => by
    have ok : T x = 1 ∧ -1000000 ≤ k ∧ k ≤ 1000000 := ok
    refine call_at hv.so rfl ?_
    unfold Sen.v
    (repeat (first | refine St.go ?_ | refine R.eVar rfl ?_ | refine ⟨_, rfl, ?_⟩ | refine R.sAug rfl ?_ | refine R.vSliT rfl rfl ?_ | refine R.vIsiNo rfl ?_ | refine R.vIsiBl rfl ?_ | refine R.vIsiIn rfl ?_ | refine R.vIsiSt rfl ?_ | refine R.vIsiTu rfl ?_ | refine R.ssCons ?_ | refine R.ssNil ?_ | refine R.w_iteT ?_ | refine R.w_iteF ?_))
    refine R.vIdxT rfl ?_
    (repeat (first | refine St.go ?_ | refine R.eVar rfl ?_ | refine ⟨_, rfl, ?_⟩ | refine R.sAug rfl ?_ | refine R.vSliT rfl rfl ?_ | refine R.vIsiNo rfl ?_ | refine R.vIsiBl rfl ?_ | refine R.vIsiIn rfl ?_ | refine R.vIsiSt rfl ?_ | refine R.vIsiTu rfl ?_ | refine R.ssCons ?_ | refine R.ssNil ?_ | refine R.w_iteT ?_ | refine R.w_iteF ?_))
    refine R.vIdxT rfl ?_
    (repeat (first | refine St.go ?_ | refine R.eVar rfl ?_ | refine ⟨_, rfl, ?_⟩ | refine R.sAug rfl ?_ | refine R.vSliT rfl rfl ?_ | refine R.vIsiNo rfl ?_ | refine R.vIsiBl rfl ?_ | refine R.vIsiIn rfl ?_ | refine R.vIsiSt rfl ?_ | refine R.vIsiTu rfl ?_ | refine R.ssCons ?_ | refine R.ssNil ?_ | refine R.w_iteT ?_ | refine R.w_iteF ?_))
    refine ⟨hp.pl, R.w_mono (foundR (x := x) hp.nd ?_ ?_) ?_⟩
    · rfl
    · rfl
    rintro ys S' ⟨rfl, rfl⟩
    have hb := List.getElem?_concat_length (l := S') (a := Ob.lst (look ps x).toList)
    (repeat (first | refine St.go ?_ | refine R.eVar rfl ?_ | refine ⟨_, rfl, ?_⟩ | refine R.sAug rfl ?_ | refine R.vSliT rfl rfl ?_ | refine R.vIsiNo rfl ?_ | refine R.vIsiBl rfl ?_ | refine R.vIsiIn rfl ?_ | refine R.vIsiSt rfl ?_ | refine R.vIsiTu rfl ?_ | refine R.ssCons ?_ | refine R.ssNil ?_ | refine R.w_iteT ?_ | refine R.w_iteF ?_))
    refine R.vTyL hb ?_
    (repeat (first | refine St.go ?_ | refine R.eVar rfl ?_ | refine ⟨_, rfl, ?_⟩ | refine R.sAug rfl ?_ | refine R.vSliT rfl rfl ?_ | refine R.vIsiNo rfl ?_ | refine R.vIsiBl rfl ?_ | refine R.vIsiIn rfl ?_ | refine R.vIsiSt rfl ?_ | refine R.vIsiTu rfl ?_ | refine R.ssCons ?_ | refine R.ssNil ?_ | refine R.w_iteT ?_ | refine R.w_iteF ?_))
    refine R.vIdxT rfl ?_
    (repeat (first | refine St.go ?_ | refine R.eVar rfl ?_ | refine ⟨_, rfl, ?_⟩ | refine R.sAug rfl ?_ | refine R.vSliT rfl rfl ?_ | refine R.vIsiNo rfl ?_ | refine R.vIsiBl rfl ?_ | refine R.vIsiIn rfl ?_ | refine R.vIsiSt rfl ?_ | refine R.vIsiTu rfl ?_ | refine R.ssCons ?_ | refine R.ssNil ?_ | refine R.w_iteT ?_ | refine R.w_iteF ?_))
    have pi := PF.int (i := k) (small63 ok.2.1 ok.2.2)
    have pa : PFs 1 5000 (look ps x).toList := by
      cases hl : look ps x with
      | none => exact PFs.nil.mono (Nat.le_refl _) (by omega)
      | some a => exact (PFs.cons (hp.ok x a hl).pf PFs.nil).mono (Nat.le_refl _) (by omega)
    refine R.vCntL (X := fun _ => False) (Y := fun _ => False) (pi.rd _ _) (.lst hb id (pa.rd _ _)) pi.ft (Fit.lst pa.ft) (by decide) (by decide) ?_
    (repeat (first | refine St.go ?_ | refine R.eVar rfl ?_ | refine ⟨_, rfl, ?_⟩ | refine R.sAug rfl ?_ | refine R.vSliT rfl rfl ?_ | refine R.vIsiNo rfl ?_ | refine R.vIsiBl rfl ?_ | refine R.vIsiIn rfl ?_ | refine R.vIsiSt rfl ?_ | refine R.vIsiTu rfl ?_ | refine R.ssCons ?_ | refine R.ssNil ?_ | refine R.w_iteT ?_ | refine R.w_iteF ?_))
    refine ⟨?_, Fr.alloc⟩
    unfold Sen.so b2i
    cases hl : look ps x with
    | none => simp [dOfs]
    | some a =>
      obtain ⟨_, i, _, rfl⟩ | ⟨h, _⟩ | ⟨h, _⟩ := hp.ok x a hl
      · by_cases hik : ((i : Nat) : Int) = k
        · subst hik
          simp [dOfs, dOf, PyData.eqv]
        · have : ¬ (Val.int (i : Nat) = Val.int k) := fun z => hik (Val.int.inj z)
          simp [dOfs, dOf, PyData.eqv, hik]
      · rw [ok.1] at h; cases h
      · rw [ok.1] at h; cases h
  | .has x k, 0, S, h, _ => absurd h (show ¬ 1 ≤ 0 by omega)
  | .has x k, m + 1, S, _, ok => by
    have ok : T x = 2 ∧ -1000000 ≤ k ∧ k ≤ 1000000 := ok
    refine call_at hv.so rfl ?_
    unfold Sen.v
    (repeat (first | refine St.go ?_ | refine R.eVar rfl ?_ | refine ⟨_, rfl, ?_⟩ | refine R.sAug rfl ?_ | refine R.vSliT rfl rfl ?_ | refine R.vIsiNo rfl ?_ | refine R.vIsiBl rfl ?_ | refine R.vIsiIn rfl ?_ | refine R.vIsiSt rfl ?_ | refine R.vIsiTu rfl ?_ | refine R.ssCons ?_ | refine R.ssNil ?_ | refine R.w_iteT ?_ | refine R.w_iteF ?_))
    refine R.vIdxT rfl ?_
    (repeat (first | refine St.go ?_ | refine R.eVar rfl ?_ | refine ⟨_, rfl, ?_⟩ | refine R.sAug rfl ?_ | refine R.vSliT rfl rfl ?_ | refine R.vIsiNo rfl ?_ | refine R.vIsiBl rfl ?_ | refine R.vIsiIn rfl ?_ | refine R.vIsiSt rfl ?_ | refine R.vIsiTu rfl ?_ | refine R.ssCons ?_ | refine R.ssNil ?_ | refine R.w_iteT ?_ | refine R.w_iteF ?_))
    refine R.vIdxT rfl ?_
    (repeat (first | refine St.go ?_ | refine R.eVar rfl ?_ | refine ⟨_, rfl, ?_⟩ | refine R.sAug rfl ?_ | refine R.vSliT rfl rfl ?_ | refine R.vIsiNo rfl ?_ | refine R.vIsiBl rfl ?_ | refine R.vIsiIn rfl ?_ | refine R.vIsiSt rfl ?_ | refine R.vIsiTu rfl ?_ | refine R.ssCons ?_ | refine R.ssNil ?_ | refine R.w_iteT ?_ | refine R.w_iteF ?_))
    refine ⟨hp.pl, R.w_mono (foundR (x := x) hp.nd ?_ ?_) ?_⟩
    · rfl
    · rfl
    rintro ys S' ⟨rfl, rfl⟩
    have hb := List.getElem?_concat_length (l := S') (a := Ob.lst (look ps x).toList)
    (repeat (first | refine St.go ?_ | refine R.eVar rfl ?_ | refine ⟨_, rfl, ?_⟩ | refine R.sAug rfl ?_ | refine R.vSliT rfl rfl ?_ | refine R.vIsiNo rfl ?_ | refine R.vIsiBl rfl ?_ | refine R.vIsiIn rfl ?_ | refine R.vIsiSt rfl ?_ | refine R.vIsiTu rfl ?_ | refine R.ssCons ?_ | refine R.ssNil ?_ | refine R.w_iteT ?_ | refine R.w_iteF ?_))
    refine R.vWalkL hb ?_
    have hll : (look ps x).toList.length ≤ 1 := by cases look ps x <;> simp
    refine ⟨Nat.le_trans hll (by decide), ?_⟩
    have pi := PF.int (i := k) (small63 ok.2.1 ok.2.2)
    refine comG (w := ⟨(look ps x).toList, [(S'.length, (look ps x).toList)]⟩) (ys := (look ps x).toList.map fun a => .int (b2i (decide (0 ≤ k ∧ k.toNat ∈ plc a)))) (fun p hp => by simp only [List.mem_singleton] at hp; subst hp; exact hb) (by simp) (fun j y hj => ?_) ?_
    · cases hl : look ps x with
      | none => rw [hl] at hj; cases hj
      | some a =>
        rw [hl] at hj
        cases j with
        | succ j => cases hj
        | zero =>
          have hj : a = y := Option.some.inj hj
          subst hj
          obtain ⟨h, _⟩ | ⟨_, l, nd, hlt, hll, rfl⟩ | ⟨h, _⟩ := hp.ok x a hl
          · rw [ok.1] at h; cases h
          · refine ⟨_, rfl, R.tOne rfl ?_⟩
            (repeat (first | refine St.go ?_ | refine R.eVar rfl ?_ | refine ⟨_, rfl, ?_⟩ | refine R.sAug rfl ?_ | refine R.vSliT rfl rfl ?_ | refine R.vIsiNo rfl ?_ | refine R.vIsiBl rfl ?_ | refine R.vIsiIn rfl ?_ | refine R.vIsiSt rfl ?_ | refine R.vIsiTu rfl ?_ | refine R.ssCons ?_ | refine R.ssNil ?_ | refine R.w_iteT ?_ | refine R.w_iteF ?_))
            refine R.vIdxT rfl ?_
            (repeat (first | refine St.go ?_ | refine R.eVar rfl ?_ | refine ⟨_, rfl, ?_⟩ | refine R.sAug rfl ?_ | refine R.vSliT rfl rfl ?_ | refine R.vIsiNo rfl ?_ | refine R.vIsiBl rfl ?_ | refine R.vIsiIn rfl ?_ | refine R.vIsiSt rfl ?_ | refine R.vIsiTu rfl ?_ | refine R.ssCons ?_ | refine R.ssNil ?_ | refine R.w_iteT ?_ | refine R.w_iteF ?_))
            have pt := PF.tup (pf_nats hlt)
            refine R.vCntT (X := fun _ => False) (Y := fun _ => False) (pi.rd _ _) (.tup ((pf_nats hlt).rd _ _)) pi.ft pt.ft (by decide) (by decide) ?_
            refine ⟨?_, rfl⟩
            rw [show dOf (.int k) = .int k from rfl, count_nat nd]
            dsimp only
            rw [plc_tup]
            unfold b2i
            by_cases hc : 0 ≤ k ∧ k.toNat ∈ l
            · rw [if_pos hc, decide_eq_true hc]; rfl
            · rw [if_neg hc, decide_eq_false hc]; rfl
          · rw [ok.1] at h; cases h
    · rw [show ((look ps x).toList.map fun a => Val.int (b2i (decide (0 ≤ k ∧ k.toNat ∈ plc a)))) = ((look ps x).toList.map fun a => b2i (decide (0 ≤ k ∧ k.toNat ∈ plc a))).map Val.int by simp]
      (repeat (first | refine St.go ?_ | refine R.eVar rfl ?_ | refine ⟨_, rfl, ?_⟩ | refine R.sAug rfl ?_ | refine R.vSliT rfl rfl ?_ | refine R.vIsiNo rfl ?_ | refine R.vIsiBl rfl ?_ | refine R.vIsiIn rfl ?_ | refine R.vIsiSt rfl ?_ | refine R.vIsiTu rfl ?_ | refine R.ssCons ?_ | refine R.ssNil ?_ | refine R.w_iteT ?_ | refine R.w_iteF ?_))
      refine ⟨?_, Fr.alloc⟩
      unfold Sen.so
      cases look ps x with
      | none => rfl
      | some a => simp [b2i]
  | .least b pr bar, 0, S, h, _ => absurd h (show ¬ pr.need + 2 ≤ 0 by omega)
  | .least b pr bar, 1, S, h, _ => absurd h (show ¬ pr.need + 2 ≤ 1 by omega)
  | .least b pr bar, m + 2, S, h, ok => by
    have h : pr.need + 2 ≤ m + 2 := h
    refine call_at hv.so rfl ?_
    unfold Sen.v
    (repeat (first | refine St.go ?_ | refine R.eVar rfl ?_ | refine ⟨_, rfl, ?_⟩ | refine R.sAug rfl ?_ | refine R.vSliT rfl rfl ?_ | refine R.vIsiNo rfl ?_ | refine R.vIsiBl rfl ?_ | refine R.vIsiIn rfl ?_ | refine R.vIsiSt rfl ?_ | refine R.vIsiTu rfl ?_ | refine R.ssCons ?_ | refine R.ssNil ?_ | refine R.w_iteT ?_ | refine R.w_iteF ?_))
    refine R.vIdxT rfl ?_
    (repeat (first | refine St.go ?_ | refine R.eVar rfl ?_ | refine ⟨_, rfl, ?_⟩ | refine R.sAug rfl ?_ | refine R.vSliT rfl rfl ?_ | refine R.vIsiNo rfl ?_ | refine R.vIsiBl rfl ?_ | refine R.vIsiIn rfl ?_ | refine R.vIsiSt rfl ?_ | refine R.vIsiTu rfl ?_ | refine R.ssCons ?_ | refine R.ssNil ?_ | refine R.w_iteT ?_ | refine R.w_iteF ?_))
    refine R.vIdxT rfl ?_
    (repeat (first | refine St.go ?_ | refine R.eVar rfl ?_ | refine ⟨_, rfl, ?_⟩ | refine R.sAug rfl ?_ | refine R.vSliT rfl rfl ?_ | refine R.vIsiNo rfl ?_ | refine R.vIsiBl rfl ?_ | refine R.vIsiIn rfl ?_ | refine R.vIsiSt rfl ?_ | refine R.vIsiTu rfl ?_ | refine R.ssCons ?_ | refine R.ssNil ?_ | refine R.w_iteT ?_ | refine R.w_iteF ?_))
    refine R.w_mono (lsum_run hv (lparts_run hv hp pr m (by omega) ok.1)) ?_
    rintro v S' ⟨rfl, fr⟩
    (repeat (first | refine St.go ?_ | refine R.eVar rfl ?_ | refine ⟨_, rfl, ?_⟩ | refine R.sAug rfl ?_ | refine R.vSliT rfl rfl ?_ | refine R.vIsiNo rfl ?_ | refine R.vIsiBl rfl ?_ | refine R.vIsiIn rfl ?_ | refine R.vIsiSt rfl ?_ | refine R.vIsiTu rfl ?_ | refine R.ssCons ?_ | refine R.ssNil ?_ | refine R.w_iteT ?_ | refine R.w_iteF ?_))
    refine R.vIdxT rfl ?_
    (repeat (first | refine St.go ?_ | refine R.eVar rfl ?_ | refine ⟨_, rfl, ?_⟩ | refine R.sAug rfl ?_ | refine R.vSliT rfl rfl ?_ | refine R.vIsiNo rfl ?_ | refine R.vIsiBl rfl ?_ | refine R.vIsiIn rfl ?_ | refine R.vIsiSt rfl ?_ | refine R.vIsiTu rfl ?_ | refine R.ssCons ?_ | refine R.ssNil ?_ | refine R.w_iteT ?_ | refine R.w_iteF ?_))
    refine ⟨?_, fr⟩
    unfold Sen.so b2i
    congr 1
    have : (!decide (b + (pr.pts (look ps)).sum < bar)) = decide (bar ≤ b + (pr.pts (look ps)).sum) := by
      rw [Bool.eq_iff_iff]; simp
    rw [this]
  | .not s, 0, S, h, _ => absurd h (show ¬ s.need + 1 ≤ 0 by omega)
  | .not s, m + 1, S, h, ok => by
    have h : s.need + 1 ≤ m + 1 := h
    refine call_at hv.so rfl ?_
    unfold Sen.v
    (repeat (first | refine St.go ?_ | refine R.eVar rfl ?_ | refine ⟨_, rfl, ?_⟩ | refine R.sAug rfl ?_ | refine R.vSliT rfl rfl ?_ | refine R.vIsiNo rfl ?_ | refine R.vIsiBl rfl ?_ | refine R.vIsiIn rfl ?_ | refine R.vIsiSt rfl ?_ | refine R.vIsiTu rfl ?_ | refine R.ssCons ?_ | refine R.ssNil ?_ | refine R.w_iteT ?_ | refine R.w_iteF ?_))
    refine R.vIdxT rfl ?_
    (repeat (first | refine St.go ?_ | refine R.eVar rfl ?_ | refine ⟨_, rfl, ?_⟩ | refine R.sAug rfl ?_ | refine R.vSliT rfl rfl ?_ | refine R.vIsiNo rfl ?_ | refine R.vIsiBl rfl ?_ | refine R.vIsiIn rfl ?_ | refine R.vIsiSt rfl ?_ | refine R.vIsiTu rfl ?_ | refine R.ssCons ?_ | refine R.ssNil ?_ | refine R.w_iteT ?_ | refine R.w_iteF ?_))
    refine R.vIdxT rfl ?_
    (repeat (first | refine St.go ?_ | refine R.eVar rfl ?_ | refine ⟨_, rfl, ?_⟩ | refine R.sAug rfl ?_ | refine R.vSliT rfl rfl ?_ | refine R.vIsiNo rfl ?_ | refine R.vIsiBl rfl ?_ | refine R.vIsiIn rfl ?_ | refine R.vIsiSt rfl ?_ | refine R.vIsiTu rfl ?_ | refine R.ssCons ?_ | refine R.ssNil ?_ | refine R.w_iteT ?_ | refine R.w_iteF ?_))
    refine R.w_mono (lso_run hv hp s m S (by omega) ok) ?_
    rintro v S' ⟨rfl, fr⟩
    (repeat (first | refine St.go ?_ | refine R.eVar rfl ?_ | refine ⟨_, rfl, ?_⟩ | refine R.sAug rfl ?_ | refine R.vSliT rfl rfl ?_ | refine R.vIsiNo rfl ?_ | refine R.vIsiBl rfl ?_ | refine R.vIsiIn rfl ?_ | refine R.vIsiSt rfl ?_ | refine R.vIsiTu rfl ?_ | refine R.ssCons ?_ | refine R.ssNil ?_ | refine R.w_iteT ?_ | refine R.w_iteF ?_))
    refine ⟨?_, fr⟩
    show Val.int (1 - b2i (s.so (look ps))) = Val.int (b2i (!s.so (look ps)))
    cases s.so (look ps) <;> rfl
  | .all ss, 0, S, h, _ => absurd h (show ¬ ss.need + 1 ≤ 0 by omega)
  | .all ss, m + 1, S, h, ok => by
    have h : ss.need + 1 ≤ m + 1 := h
    refine call_at hv.so rfl ?_
    unfold Sen.v
    (repeat (first | refine St.go ?_ | refine R.eVar rfl ?_ | refine ⟨_, rfl, ?_⟩ | refine R.sAug rfl ?_ | refine R.vSliT rfl rfl ?_ | refine R.vIsiNo rfl ?_ | refine R.vIsiBl rfl ?_ | refine R.vIsiIn rfl ?_ | refine R.vIsiSt rfl ?_ | refine R.vIsiTu rfl ?_ | refine R.ssCons ?_ | refine R.ssNil ?_ | refine R.w_iteT ?_ | refine R.w_iteF ?_))
    refine R.vIdxT rfl ?_
    (repeat (first | refine St.go ?_ | refine R.eVar rfl ?_ | refine ⟨_, rfl, ?_⟩ | refine R.sAug rfl ?_ | refine R.vSliT rfl rfl ?_ | refine R.vIsiNo rfl ?_ | refine R.vIsiBl rfl ?_ | refine R.vIsiIn rfl ?_ | refine R.vIsiSt rfl ?_ | refine R.vIsiTu rfl ?_ | refine R.ssCons ?_ | refine R.ssNil ?_ | refine R.w_iteT ?_ | refine R.w_iteF ?_))
    refine R.vIdxT rfl ?_
    (repeat (first | refine St.go ?_ | refine R.eVar rfl ?_ | refine ⟨_, rfl, ?_⟩ | refine R.sAug rfl ?_ | refine R.vSliT rfl rfl ?_ | refine R.vIsiNo rfl ?_ | refine R.vIsiBl rfl ?_ | refine R.vIsiIn rfl ?_ | refine R.vIsiSt rfl ?_ | refine R.vIsiTu rfl ?_ | refine R.ssCons ?_ | refine R.ssNil ?_ | refine R.w_iteT ?_ | refine R.w_iteF ?_))
    refine R.w_mono (ltold (w := true) (lsens_run hv hp ss m (by omega) ok.1)) ?_
    rintro fl S' ⟨fr, t, ht, o6, rfl⟩
    (repeat (first | refine St.go ?_ | refine R.eVar rfl ?_ | refine ⟨_, rfl, ?_⟩ | refine R.sAug rfl ?_ | refine R.vSliT rfl rfl ?_ | refine R.vIsiNo rfl ?_ | refine R.vIsiBl rfl ?_ | refine R.vIsiIn rfl ?_ | refine R.vIsiSt rfl ?_ | refine R.vIsiTu rfl ?_ | refine R.ssCons ?_ | refine R.ssNil ?_ | refine R.w_iteT ?_ | refine R.w_iteF ?_))
    refine ⟨?_, fr⟩
    rw [ht]
    unfold Sen.so
    congr 2
    apply List.all_congr rfl
    intro b
    cases b <;> rfl
  | .any ss, 0, S, h, _ => absurd h (show ¬ ss.need + 1 ≤ 0 by omega)
  | .any ss, m + 1, S, h, ok => by
    have h : ss.need + 1 ≤ m + 1 := h
    refine call_at hv.so rfl ?_
    unfold Sen.v
    (repeat (first | refine St.go ?_ | refine R.eVar rfl ?_ | refine ⟨_, rfl, ?_⟩ | refine R.sAug rfl ?_ | refine R.vSliT rfl rfl ?_ | refine R.vIsiNo rfl ?_ | refine R.vIsiBl rfl ?_ | refine R.vIsiIn rfl ?_ | refine R.vIsiSt rfl ?_ | refine R.vIsiTu rfl ?_ | refine R.ssCons ?_ | refine R.ssNil ?_ | refine R.w_iteT ?_ | refine R.w_iteF ?_))
    refine R.vIdxT rfl ?_
    (repeat (first | refine St.go ?_ | refine R.eVar rfl ?_ | refine ⟨_, rfl, ?_⟩ | refine R.sAug rfl ?_ | refine R.vSliT rfl rfl ?_ | refine R.vIsiNo rfl ?_ | refine R.vIsiBl rfl ?_ | refine R.vIsiIn rfl ?_ | refine R.vIsiSt rfl ?_ | refine R.vIsiTu rfl ?_ | refine R.ssCons ?_ | refine R.ssNil ?_ | refine R.w_iteT ?_ | refine R.w_iteF ?_))
    refine R.vIdxT rfl ?_
    (repeat (first | refine St.go ?_ | refine R.eVar rfl ?_ | refine ⟨_, rfl, ?_⟩ | refine R.sAug rfl ?_ | refine R.vSliT rfl rfl ?_ | refine R.vIsiNo rfl ?_ | refine R.vIsiBl rfl ?_ | refine R.vIsiIn rfl ?_ | refine R.vIsiSt rfl ?_ | refine R.vIsiTu rfl ?_ | refine R.ssCons ?_ | refine R.ssNil ?_ | refine R.w_iteT ?_ | refine R.w_iteF ?_))
    refine R.w_mono (ltold (w := false) (lsens_run hv hp ss m (by omega) ok.1)) ?_
    rintro fl S' ⟨fr, t, ht, o6, rfl⟩
    (repeat (first | refine St.go ?_ | refine R.eVar rfl ?_ | refine ⟨_, rfl, ?_⟩ | refine R.sAug rfl ?_ | refine R.vSliT rfl rfl ?_ | refine R.vIsiNo rfl ?_ | refine R.vIsiBl rfl ?_ | refine R.vIsiIn rfl ?_ | refine R.vIsiSt rfl ?_ | refine R.vIsiTu rfl ?_ | refine R.ssCons ?_ | refine R.ssNil ?_ | refine R.w_iteT ?_ | refine R.w_iteF ?_))
    refine ⟨?_, fr⟩
    rw [ht]
    unfold Sen.so b2i
    have e : ∀ l : List Bool, l.any id = !(l.all fun b => b == false) := by
      intro l
      induction l with
      | nil => rfl
      | cons a l ih => cases a <;> simp [ih]
    rw [e]
    cases (Sens.bs (look ps) ss).all fun b => b == false <;> rfl
theorem lsens_run (hv : Lso D) (hp : PsOk T ps) : ∀ (ss : Sens) (m : Nat), ss.need ≤ m → ss.Ok T → ∀ (k : Nat) (x : Val), ss.vs[k]? = some x → ∃ y, (ss.bs (look ps))[k]? = some y ∧ ∀ S, V ((K D glo scr gas m).call "_law_so" [.tup (pv ps), x]) S fun v S' => v = .int (b2i y) ∧ Fr F0 S S'
  | .nil, _, _, _, k, x, hx => by cases hx
  | .cons s ss, m, h, ok, 0, x, hx => by
    have h : max s.need ss.need ≤ m := h
    cases hx
    exact ⟨_, rfl, fun S => lso_run hv hp s m S (by omega) ok.1⟩
  | .cons s ss, m, h, ok, k + 1, x, hx => by
    have h : max s.need ss.need ≤ m := h
    exact lsens_run hv hp ss m (by omega) ok.2 k x hx
theorem lpart_run (hv : Lso D) (hp : PsOk T ps) : ∀ (p : Prt) (m : Nat), p.need ≤ m + 1 → p.Ok T → ∃ wd th wt, p.v = .tup [wd, th, wt] ∧ ∀ (tm : Val) (told : Int) o6 o7 o8 o9 o10 S, V (xSs (K D glo scr gas m) bLB (ev11 ps tm told wd th wt o6 o7 o8 o9 o10)) S fun fl S' => Fr F0 S S' ∧ ∃ o6 o7 o8 o9 o10, fl = .nx (ev11 ps tm (told + p.pt (look ps)) wd th wt o6 o7 o8 o9 o10)
  | .whr s w, m, h, ok => by
    have h : s.need + 1 ≤ m + 1 := h
    refine ⟨_, _, _, rfl, fun tm told o6 o7 o8 o9 o10 S => ?_⟩
    unfold bLB
    (repeat (first | refine St.go ?_ | refine R.eVar rfl ?_ | refine ⟨_, rfl, ?_⟩ | refine R.sAug rfl ?_ | refine R.vSliT rfl rfl ?_ | refine R.vIsiNo rfl ?_ | refine R.vIsiBl rfl ?_ | refine R.vIsiIn rfl ?_ | refine R.vIsiSt rfl ?_ | refine R.vIsiTu rfl ?_ | refine R.ssCons ?_ | refine R.ssNil ?_ | refine R.w_iteT ?_ | refine R.w_iteF ?_))
    refine R.w_mono (lso_run hv hp s m S (by omega) ok.1) ?_
    rintro v S1 ⟨rfl, fr1⟩
    have hb : (b2i (s.so (look ps))).natAbs < 2 ^ 4000 := by
      apply small4 <;> (unfold b2i; split <;> omega)
    refine R.vMul (mulOk_of (small4 ok.2.1 ok.2.2) hb) ?_
    (repeat (first | refine St.go ?_ | refine R.eVar rfl ?_ | refine ⟨_, rfl, ?_⟩ | refine R.sAug rfl ?_ | refine R.vSliT rfl rfl ?_ | refine R.vIsiNo rfl ?_ | refine R.vIsiBl rfl ?_ | refine R.vIsiIn rfl ?_ | refine R.vIsiSt rfl ?_ | refine R.vIsiTu rfl ?_ | refine R.ssCons ?_ | refine R.ssNil ?_ | refine R.w_iteT ?_ | refine R.w_iteF ?_))
    refine R.w_mono (inner (c := fun _ => 0) (fun q hq told o8 o9 o10 S => ?_)) ?_
    · unfold bInner
      (repeat (first | refine St.go ?_ | refine R.eVar rfl ?_ | refine ⟨_, rfl, ?_⟩ | refine R.sAug rfl ?_ | refine R.vSliT rfl rfl ?_ | refine R.vIsiNo rfl ?_ | refine R.vIsiBl rfl ?_ | refine R.vIsiIn rfl ?_ | refine R.vIsiSt rfl ?_ | refine R.vIsiTu rfl ?_ | refine R.ssCons ?_ | refine R.ssNil ?_ | refine R.w_iteT ?_ | refine R.w_iteF ?_))
      exact ⟨Fr.refl, _, _, _, by rw [Int.add_zero]⟩
    rintro fl S2 ⟨fr2, p6, p7, p8, p9, p10, rfl⟩
    (repeat (first | refine St.go ?_ | refine R.eVar rfl ?_ | refine ⟨_, rfl, ?_⟩ | refine R.sAug rfl ?_ | refine R.vSliT rfl rfl ?_ | refine R.vIsiNo rfl ?_ | refine R.vIsiBl rfl ?_ | refine R.vIsiIn rfl ?_ | refine R.vIsiSt rfl ?_ | refine R.vIsiTu rfl ?_ | refine R.ssCons ?_ | refine R.ssNil ?_ | refine R.w_iteT ?_ | refine R.w_iteF ?_))
    have e : told + w * b2i (s.so (look ps)) + (ps.map fun _ => (0 : Int)).sum = told + Prt.pt (look ps) (.whr s w) := by
      have z : ∀ l : Ps, (l.map fun _ => (0 : Int)).sum = 0 := by
        intro l
        induction l with
        | nil => rfl
        | cons a l ih => rw [List.map_cons, List.sum_cons, ih]; rfl
      rw [z]
      unfold Prt.pt b2i
      cases s.so (look ps) <;> simp
    rw [← e]
    exact ⟨fr1.trans fr2, _, _, _, _, _, rfl⟩
  | .times x w, m, h, ok => by
    have ok : T x = 3 ∧ -1000000 ≤ w ∧ w ≤ 1000000 := ok
    refine ⟨_, _, _, rfl, fun tm told o6 o7 o8 o9 o10 S => ?_⟩
    unfold bLB
    (repeat (first | refine St.go ?_ | refine R.eVar rfl ?_ | refine ⟨_, rfl, ?_⟩ | refine R.sAug rfl ?_ | refine R.vSliT rfl rfl ?_ | refine R.vIsiNo rfl ?_ | refine R.vIsiBl rfl ?_ | refine R.vIsiIn rfl ?_ | refine R.vIsiSt rfl ?_ | refine R.vIsiTu rfl ?_ | refine R.ssCons ?_ | refine R.ssNil ?_ | refine R.w_iteT ?_ | refine R.w_iteF ?_))
    refine R.w_mono (inner (c := fun q => if q.1 = x then timesV w q.2 else 0) (fun q hq told o8 o9 o10 S => ?_)) ?_
    · unfold bInner
      (repeat (first | refine St.go ?_ | refine R.eVar rfl ?_ | refine ⟨_, rfl, ?_⟩ | refine R.sAug rfl ?_ | refine R.vSliT rfl rfl ?_ | refine R.vIsiNo rfl ?_ | refine R.vIsiBl rfl ?_ | refine R.vIsiIn rfl ?_ | refine R.vIsiSt rfl ?_ | refine R.vIsiTu rfl ?_ | refine R.ssCons ?_ | refine R.ssNil ?_ | refine R.w_iteT ?_ | refine R.w_iteF ?_))
      refine R.w_ite (fun hb => ?_) (fun hb => ?_)
      · have hb := of_decide_eq_true hb
        have ha := hp.ans hq
        rw [hb] at ha
        obtain ⟨h, _⟩ | ⟨h, _⟩ | ⟨_, i, i0, i1, e⟩ := ha
        · rw [ok.1] at h; cases h
        · rw [ok.1] at h; cases h
        · rw [e]
          (repeat (first | refine St.go ?_ | refine R.eVar rfl ?_ | refine ⟨_, rfl, ?_⟩ | refine R.sAug rfl ?_ | refine R.vSliT rfl rfl ?_ | refine R.vIsiNo rfl ?_ | refine R.vIsiBl rfl ?_ | refine R.vIsiIn rfl ?_ | refine R.vIsiSt rfl ?_ | refine R.vIsiTu rfl ?_ | refine R.ssCons ?_ | refine R.ssNil ?_ | refine R.w_iteT ?_ | refine R.w_iteF ?_))
          refine R.vMul (mulOk_of (small4 ok.2.1 ok.2.2) (small4 (by omega) (by omega))) ?_
          (repeat (first | refine St.go ?_ | refine R.eVar rfl ?_ | refine ⟨_, rfl, ?_⟩ | refine R.sAug rfl ?_ | refine R.vSliT rfl rfl ?_ | refine R.vIsiNo rfl ?_ | refine R.vIsiBl rfl ?_ | refine R.vIsiIn rfl ?_ | refine R.vIsiSt rfl ?_ | refine R.vIsiTu rfl ?_ | refine R.ssCons ?_ | refine R.ssNil ?_ | refine R.w_iteT ?_ | refine R.w_iteF ?_))
          rw [if_pos hb]
          exact ⟨Fr.refl, _, _, _, rfl⟩
      · have hb := of_decide_eq_false hb
        (repeat (first | refine St.go ?_ | refine R.eVar rfl ?_ | refine ⟨_, rfl, ?_⟩ | refine R.sAug rfl ?_ | refine R.vSliT rfl rfl ?_ | refine R.vIsiNo rfl ?_ | refine R.vIsiBl rfl ?_ | refine R.vIsiIn rfl ?_ | refine R.vIsiSt rfl ?_ | refine R.vIsiTu rfl ?_ | refine R.ssCons ?_ | refine R.ssNil ?_ | refine R.w_iteT ?_ | refine R.w_iteF ?_))
        rw [if_neg hb, Int.add_zero]
        exact ⟨Fr.refl, _, _, _, rfl⟩
    rintro fl S2 ⟨fr2, p6, p7, p8, p9, p10, rfl⟩
    (repeat (first | refine St.go ?_ | refine R.eVar rfl ?_ | refine ⟨_, rfl, ?_⟩ | refine R.sAug rfl ?_ | refine R.vSliT rfl rfl ?_ | refine R.vIsiNo rfl ?_ | refine R.vIsiBl rfl ?_ | refine R.vIsiIn rfl ?_ | refine R.vIsiSt rfl ?_ | refine R.vIsiTu rfl ?_ | refine R.ssCons ?_ | refine R.ssNil ?_ | refine R.w_iteT ?_ | refine R.w_iteF ?_))
    rw [sum_pairs (g := timesV w) hp.nd]
    refine ⟨fr2, p6, p7, p8, p9, p10, ?_⟩
    unfold Prt.pt
    cases hl : look ps x with
    | none => rfl
    | some a => cases a <;> rfl
  | .of x ws, m, h, ok => by
    have ok : (T x = 1 ∨ T x = 2) ∧ ws.length ≤ 64 := ok.1
    refine ⟨_, _, _, rfl, fun tm told o6 o7 o8 o9 o10 S => ?_⟩
    unfold bLB
    (repeat (first | refine St.go ?_ | refine R.eVar rfl ?_ | refine ⟨_, rfl, ?_⟩ | refine R.sAug rfl ?_ | refine R.vSliT rfl rfl ?_ | refine R.vIsiNo rfl ?_ | refine R.vIsiBl rfl ?_ | refine R.vIsiIn rfl ?_ | refine R.vIsiSt rfl ?_ | refine R.vIsiTu rfl ?_ | refine R.ssCons ?_ | refine R.ssNil ?_ | refine R.w_iteT ?_ | refine R.w_iteF ?_))
    refine R.w_mono (inner (c := fun q => if q.1 = x then ofS ws q.2 else 0) (fun q hq told o8 o9 o10 S => ?_)) ?_
    · unfold bInner
      (repeat (first | refine St.go ?_ | refine R.eVar rfl ?_ | refine ⟨_, rfl, ?_⟩ | refine R.sAug rfl ?_ | refine R.vSliT rfl rfl ?_ | refine R.vIsiNo rfl ?_ | refine R.vIsiBl rfl ?_ | refine R.vIsiIn rfl ?_ | refine R.vIsiSt rfl ?_ | refine R.vIsiTu rfl ?_ | refine R.ssCons ?_ | refine R.ssNil ?_ | refine R.w_iteT ?_ | refine R.w_iteF ?_))
      refine R.w_ite (fun hb => ?_) (fun hb => ?_)
      · have hb := of_decide_eq_true hb
        have ha := hp.ans hq
        rw [hb] at ha
        have wl : ((ws.map Val.int).zipIdx.map fun p => Val.tup [.int (p.2 : Nat), p.1]).length ≤ PySem.sizeLine := by
          simp only [List.length_map, List.length_zipIdx]
          exact Nat.le_trans ok.2 (by decide)
        obtain ⟨_, i, hi, e⟩ | ⟨_, l, nd, hlt, hll, e⟩ | ⟨h, _⟩ := ha
        · rw [e]
          (repeat (first | refine St.go ?_ | refine R.eVar rfl ?_ | refine ⟨_, rfl, ?_⟩ | refine R.sAug rfl ?_ | refine R.vSliT rfl rfl ?_ | refine R.vIsiNo rfl ?_ | refine R.vIsiBl rfl ?_ | refine R.vIsiIn rfl ?_ | refine R.vIsiSt rfl ?_ | refine R.vIsiTu rfl ?_ | refine R.ssCons ?_ | refine R.ssNil ?_ | refine R.w_iteT ?_ | refine R.w_iteF ?_))
          refine ⟨wl, R.w_mono (weigh (l := [i]) (fun y hy => by simp at hy; omega) (by simp) ok.2 (by simp) ?_ ?_) ?_⟩
          · rfl
          · rfl
          rintro ys S' ⟨rfl, ns, rfl, e2⟩
          (repeat (first | refine St.go ?_ | refine R.eVar rfl ?_ | refine ⟨_, rfl, ?_⟩ | refine R.sAug rfl ?_ | refine R.vSliT rfl rfl ?_ | refine R.vIsiNo rfl ?_ | refine R.vIsiBl rfl ?_ | refine R.vIsiIn rfl ?_ | refine R.vIsiSt rfl ?_ | refine R.vIsiTu rfl ?_ | refine R.ssCons ?_ | refine R.ssNil ?_ | refine R.w_iteT ?_ | refine R.w_iteF ?_))
          rw [if_pos hb]
          have e3 : ns.sum = ofS ws (.int (i : Nat)) := by rw [e2]; unfold ofS plc; simp
          rw [e3]
          exact ⟨Fr.refl, _, _, _, rfl⟩
        · rw [e]
          (repeat (first | refine St.go ?_ | refine R.eVar rfl ?_ | refine ⟨_, rfl, ?_⟩ | refine R.sAug rfl ?_ | refine R.vSliT rfl rfl ?_ | refine R.vIsiNo rfl ?_ | refine R.vIsiBl rfl ?_ | refine R.vIsiIn rfl ?_ | refine R.vIsiSt rfl ?_ | refine R.vIsiTu rfl ?_ | refine R.ssCons ?_ | refine R.ssNil ?_ | refine R.w_iteT ?_ | refine R.w_iteF ?_))
          refine ⟨wl, R.w_mono (weigh (l := l) hlt hll ok.2 nd ?_ ?_) ?_⟩
          · rfl
          · rfl
          rintro ys S' ⟨rfl, ns, rfl, e2⟩
          (repeat (first | refine St.go ?_ | refine R.eVar rfl ?_ | refine ⟨_, rfl, ?_⟩ | refine R.sAug rfl ?_ | refine R.vSliT rfl rfl ?_ | refine R.vIsiNo rfl ?_ | refine R.vIsiBl rfl ?_ | refine R.vIsiIn rfl ?_ | refine R.vIsiSt rfl ?_ | refine R.vIsiTu rfl ?_ | refine R.ssCons ?_ | refine R.ssNil ?_ | refine R.w_iteT ?_ | refine R.w_iteF ?_))
          rw [if_pos hb]
          have e3 : ns.sum = ofS ws (.tup (l.map fun x => .int (x : Nat))) := by rw [e2]; unfold ofS; rw [plc_tup]
          rw [e3]
          exact ⟨Fr.refl, _, _, _, rfl⟩
        · rcases ok.1 with e | e <;> (rw [e] at h; cases h)
      · have hb := of_decide_eq_false hb
        (repeat (first | refine St.go ?_ | refine R.eVar rfl ?_ | refine ⟨_, rfl, ?_⟩ | refine R.sAug rfl ?_ | refine R.vSliT rfl rfl ?_ | refine R.vIsiNo rfl ?_ | refine R.vIsiBl rfl ?_ | refine R.vIsiIn rfl ?_ | refine R.vIsiSt rfl ?_ | refine R.vIsiTu rfl ?_ | refine R.ssCons ?_ | refine R.ssNil ?_ | refine R.w_iteT ?_ | refine R.w_iteF ?_))
        rw [if_neg hb, Int.add_zero]
        exact ⟨Fr.refl, _, _, _, rfl⟩
    rintro fl S2 ⟨fr2, p6, p7, p8, p9, p10, rfl⟩
    (repeat (first | refine St.go ?_ | refine R.eVar rfl ?_ | refine ⟨_, rfl, ?_⟩ | refine R.sAug rfl ?_ | refine R.vSliT rfl rfl ?_ | refine R.vIsiNo rfl ?_ | refine R.vIsiBl rfl ?_ | refine R.vIsiIn rfl ?_ | refine R.vIsiSt rfl ?_ | refine R.vIsiTu rfl ?_ | refine R.ssCons ?_ | refine R.ssNil ?_ | refine R.w_iteT ?_ | refine R.w_iteF ?_))
    rw [sum_pairs (g := ofS ws) hp.nd]
    refine ⟨fr2, p6, p7, p8, p9, p10, ?_⟩
    unfold Prt.pt
    rfl
theorem lparts_run (hv : Lso D) (hp : PsOk T ps) : ∀ (pr : Prts) (m : Nat), pr.need ≤ m + 1 → pr.Ok T → ∀ (k : Nat) (x : Val), pr.vs[k]? = some x → ∃ y wd th wt, (pr.pts (look ps))[k]? = some y ∧ x = .tup [wd, th, wt] ∧ ∀ (tm : Val) (told : Int) o6 o7 o8 o9 o10 S, V (xSs (K D glo scr gas m) bLB (ev11 ps tm told wd th wt o6 o7 o8 o9 o10)) S fun fl S' => Fr F0 S S' ∧ ∃ o6 o7 o8 o9 o10, fl = .nx (ev11 ps tm (told + y) wd th wt o6 o7 o8 o9 o10)
  | .nil, _, _, _, k, x, hx => by cases hx
  | .cons p pr, m, h, ok, 0, x, hx => by
    have h : max p.need pr.need ≤ m + 1 := h
    cases hx
    obtain ⟨wd, th, wt, e, hh⟩ := lpart_run hv hp p m (by omega) ok.1
    exact ⟨_, wd, th, wt, rfl, e, hh⟩
  | .cons p pr, m, h, ok, k + 1, x, hx => by
    have h : max p.need pr.need ≤ m + 1 := h
    exact lparts_run hv hp pr m (by omega) ok.2 k x hx
end
end
end G

end

section
set_option maxHeartbeats 1000000
set_option exponentiation.threshold 5000
/-! G9: the calls at their depths; dicts; rows of pairs. -/
namespace G
open Ev
open PySem (Str PyData)
structure Gen (D : List Fn) : Prop where
  draw : Has D "_law_draw" bDraw 2 6
  name : Has D "_law_name" bName 2 7
  kind : Has D "_law_kind" bKind 1 5
  reply : Has D "_law_reply" bReply 2 4
  weight : Has D "_law_weight" bWeight 1 1
  of : Has D "_law_of" bOf 3 4
  plain : Has D "_law_plain" bPlain 3 9
  term : Has D "_law_term" bTerm 4 8
  sentence : Has D "_law_sentence" bSentence 4 7
section
variable {D : List Fn} {glo : Str → Option Val} {scr : List Int} {gas n : Nat}
theorem draw_c (g : Gen D) (h : 1 ≤ n) : DrawC (K D glo scr gas n) := by
  obtain ⟨m, rfl⟩ : ∃ m, n = m + 1 := ⟨n - 1, by omega⟩
  exact fun fd h0 h1 q => call_at g.draw rfl (draw_ok (n := 0) fd h0 h1 q)
theorem name_c (g : Gen D) (h : 2 ≤ n) : NameC (K D glo scr gas n) := by
  obtain ⟨m, rfl⟩ : ∃ m, n = m + 1 := ⟨n - 1, by omega⟩
  exact fun fd hg hgf hns hl q => call_at g.name rfl (name_ok (draw_c g (by omega)) fd hg hgf hns hl q)
theorem kind_c (g : Gen D) (h : 2 ≤ n) : KindC (K D glo scr gas n) := by
  obtain ⟨m, rfl⟩ : ∃ m, n = m + 1 := ⟨n - 1, by omega⟩
  exact fun fd q => call_at g.kind rfl (kind_ok (draw_c g (by omega)) fd q)
theorem reply_c (g : Gen D) (h : 2 ≤ n) : ReplyC (K D glo scr gas n) := by
  obtain ⟨m, rfl⟩ : ∃ m, n = m + 1 := ⟨n - 1, by omega⟩
  exact fun hk fd q => call_at g.reply rfl (reply_ok (draw_c g (by omega)) hk fd q)
theorem weight_c (g : Gen D) (h : 2 ≤ n) : WeightC (K D glo scr gas n) := by
  obtain ⟨m, rfl⟩ : ∃ m, n = m + 1 := ⟨n - 1, by omega⟩
  exact fun fd q => call_at g.weight rfl (weight_ok (draw_c g (by omega)) fd q)
theorem of_c (g : Gen D) (h : 3 ≤ n) : OfC (K D glo scr gas n) := by
  obtain ⟨m, rfl⟩ : ∃ m, n = m + 1 := ⟨n - 1, by omega⟩
  exact fun hk hx fd q => call_at g.of rfl (of_ok (draw_c g (by omega)) (weight_c g (by omega)) hk hx fd q)
theorem plain_c (g : Gen D) (h : 4 ≤ n) : PlainC (K D glo scr gas n) := by
  obtain ⟨m, rfl⟩ : ∃ m, n = m + 1 := ⟨n - 1, by omega⟩
  exact fun gs q => call_at g.plain rfl (plain_ok (draw_c g (by omega)) (of_c g (by omega)) (reply_c g (by omega)) gs q)
theorem term_of (g : Gen D) {d : Nat} (hw : SW d ≤ 5000000) (h : 4 ≤ n) (hs : SenC (K D glo scr gas n) d) : TermC (K D glo scr gas (n + 1)) d :=
  fun gs q => call_at g.term rfl (term_ok hw (draw_c g (by omega)) (of_c g (by omega)) (weight_c g (by omega)) hs gs q)
theorem SW_mono (d : Nat) : SW d ≤ SW (d + 1) := by show SW d ≤ 3 * SW d + 2000; omega
theorem sen_c (g : Gen D) : ∀ (d n : Nat), SW d ≤ 5000000 → 2 * d + 6 ≤ n → SenC (K D glo scr gas n) d
  | 0, n, hw, h => by
    obtain ⟨m, rfl⟩ : ∃ m, n = m + 1 := ⟨n - 1, by omega⟩
    exact fun gs q => call_at g.sentence rfl (sentence_ok hw (draw_c g (by omega)) (plain_c g (by omega)) (fun e he => by omega) (fun e he => by omega) gs q)
  | d + 1, n, hw, h => by
    obtain ⟨m, rfl⟩ : ∃ m, n = m + 2 := ⟨n - 2, by omega⟩
    have hw' := Nat.le_trans (SW_mono d) hw
    refine fun gs q => call_at g.sentence rfl (sentence_ok hw (draw_c g (by omega)) (plain_c g (by omega)) (fun e he => ?_) (fun e he => ?_) gs q)
    · cases he; exact sen_c g d (m + 1) hw' (by omega)
    · cases he; exact term_of g hw' (by omega) (sen_c g d m hw' (by omega))
theorem term_c (g : Gen D) {d : Nat} (hw : SW d ≤ 5000000) (h : 2 * d + 7 ≤ n) : TermC (K D glo scr gas n) d := by
  obtain ⟨m, rfl⟩ : ∃ m, n = m + 1 := ⟨n - 1, by omega⟩
  exact term_of g hw (by omega) (sen_c g d m hw (by omega))
def KindsC (C : Ctx) : Prop := ∀ {f B : Nat} {S : Sto} {Q : Val → Sto → Prop} {m : Int}, 0 ≤ m → m ≤ 12 → Feed f (B + 400) S → (∀ ks S', KsOk ks → (ks.length : Int) = m → Feed f B S' → Fr (At f) S S' → Q (.tup (kvs ks)) S') → V (C.call "_law_kinds" [.loc f, .int m]) S Q
theorem kinds_c (g : Gen D) (hk : Has D "_law_kinds" bKinds 2 7) (h : 3 ≤ n) : KindsC (K D glo scr gas n) := by
  obtain ⟨m, rfl⟩ : ∃ m, n = m + 1 := ⟨n - 1, by omega⟩
  exact fun m0 m1 fd q => call_at hk rfl (kinds_ok (draw_c g (by omega)) (name_c g (by omega)) (kind_c g (by omega)) m0 m1 fd q)
def MixedC (C : Ctx) : Prop := ∀ {f B : Nat} {S : Sto} {Q : Val → Sto → Prop} {vs : List Val}, vs.length ≤ 20 → Feed f (B + 20) S → (∀ us S', us.Perm vs → Feed f B S' → Fr (At f) S S' → Q (.tup us) S') → V (C.call "_law_mixed" [.loc f, .tup vs]) S Q
theorem mixed_c (g : Gen D) (hk : Has D "_law_mixed" bMixed 2 4) (h : 2 ≤ n) : MixedC (K D glo scr gas n) := by
  obtain ⟨m, rfl⟩ : ∃ m, n = m + 1 := ⟨n - 1, by omega⟩
  exact fun hv fd q => call_at hk rfl (mixed_ok (draw_c g (by omega)) hv fd q)
end
theorem mixedL_c {D : List Fn} {glo : Str → Option Val} {scr : List Int} {gas n : Nat} (g : Gen D) (hk : Has D "_law_mixed" bMixed 2 4) (h : 2 ≤ n) {f B l : Nat} {S : Sto} {Q : Val → Sto → Prop} {vs : List Val} (hv : vs.length ≤ 20) (fd : Feed f (B + 20) S) (hl : S[l]? = some (.lst vs)) (hlf : l ≠ f) (q : ∀ us S', us.Perm vs → Feed f B S' → Fr (At f) S S' → Q (.tup us) S') : V ((K D glo scr gas n).call "_law_mixed" [.loc f, .loc l]) S Q := by
  obtain ⟨m, rfl⟩ : ∃ m, n = m + 1 := ⟨n - 1, by omega⟩
  exact call_at hk rfl (mixedL_ok (draw_c g (by omega)) hv fd hl hlf q)
theorem cut_ints {l h : Option Int} (ns : List Int) : ∃ ms : List Int, cut (ns.map Val.int) l h = ms.map Val.int := by
  unfold cut
  rw [List.length_map]
  exact ⟨_, by rw [List.map_take, List.map_drop]⟩
theorem feed_ok {C : Ctx} {S : Sto} {Q : Val → Sto → Prop} (q : ∀ S' g, S'.length = S.length + 2 → g = S.length + 1 → Feed g 1000000000 S' → Q (.loc g) S') : V (xSs C bFeed (start 1 [.scr])) S (ret Q) := by
  (repeat (first | refine St.go ?_ | refine R.eVar rfl ?_ | refine ⟨_, rfl, ?_⟩ | refine R.sAug rfl ?_ | refine R.vSliT rfl rfl ?_ | refine R.vIsiNo rfl ?_ | refine R.vIsiBl rfl ?_ | refine R.vIsiIn rfl ?_ | refine R.vIsiSt rfl ?_ | refine R.vIsiTu rfl ?_ | refine R.ssCons ?_ | refine R.ssNil ?_ | refine R.w_iteT ?_ | refine R.w_iteF ?_))
  refine R.vSliC rfl rfl ?_
  (repeat (first | refine St.go ?_ | refine R.eVar rfl ?_ | refine ⟨_, rfl, ?_⟩ | refine R.sAug rfl ?_ | refine R.vSliT rfl rfl ?_ | refine R.vIsiNo rfl ?_ | refine R.vIsiBl rfl ?_ | refine R.vIsiIn rfl ?_ | refine R.vIsiSt rfl ?_ | refine R.vIsiTu rfl ?_ | refine R.ssCons ?_ | refine R.ssNil ?_ | refine R.w_iteT ?_ | refine R.w_iteF ?_))
  obtain ⟨ms, e⟩ := cut_ints (l := none) (h := some 63) C.scr
  rw [e]
  refine q _ _ (by simp) (by simp) ⟨S.length, ms, 0, 0, 0, ?_, ?_, by simp, by decide, by decide, by decide⟩
  · simp
  · simp
/-! ### dicts of pairs -/
section
variable {α : Type} {g : α → Val}
theorem pairs_str : ∀ (l : List (Str × α)), pairsOf (l.map fun p : Str × α => .tup [.str p.1, g p.2]) = some (l.map fun p : Str × α => ((.inr p.1 : L2.Key), g p.2))
  | [] => rfl
  | p :: l => by
    show (match keyOf (.str p.1) with | some k => (pairsOf (l.map fun p : Str × α => .tup [.str p.1, g p.2])).map ((k, g p.2) :: ·) | none => none) = _
    rw [pairs_str l]
    rfl
theorem put_new {d : List (L2.Key × Val)} {k : L2.Key} {v : Val} (h : ∀ p ∈ d, p.1 ≠ k) : dicPut d k v = d ++ [(k, v)] := by
  unfold dicPut
  rw [if_neg]
  rw [List.any_eq_true]
  rintro ⟨p, hp, e⟩
  exact h p hp (of_decide_eq_true e)
theorem fold_nd : ∀ (l : List (Str × α)) (d : List (L2.Key × Val)), (l.map (·.1)).Nodup → (∀ p ∈ l, ∀ q ∈ d, q.1 ≠ .inr p.1) → (l.map fun p => ((.inr p.1 : L2.Key), g p.2)).foldl (fun d p => dicPut d p.1 p.2) d = d ++ l.map fun p => ((.inr p.1 : L2.Key), g p.2)
  | [], d, _, _ => by simp
  | p :: l, d, nd, h => by
    rw [List.map_cons, List.nodup_cons] at nd
    rw [List.map_cons, List.foldl_cons, put_new (fun q hq => h p (by simp) q hq), fold_nd l _ nd.2 ?_]
    · simp
    · intro q hq r hr
      rcases List.mem_append.mp hr with hr | hr
      · exact h q (by simp [hq]) r hr
      · simp only [List.mem_singleton] at hr
        subst hr
        intro z
        have z : p.1 = q.1 := Sum.inr.inj z
        exact nd.1 (z ▸ List.mem_map_of_mem hq)
theorem dic_nd {l : List (Str × α)} (nd : (l.map (·.1)).Nodup) : dicOf (l.map fun p => ((.inr p.1 : L2.Key), g p.2)) = l.map fun p => ((.inr p.1 : L2.Key), g p.2) := by
  unfold dicOf
  rw [fold_nd l [] nd (fun p _ q hq => nomatch hq)]
  simp
theorem get_str (x : Str) : ∀ (l : List (Str × α)), dicGet (l.map fun p => ((.inr p.1 : L2.Key), g p.2)) (.inr x) = (l.find? fun p => decide (p.1 = x)).map fun p => g p.2
  | [] => rfl
  | p :: l => by
    have ih := get_str x l
    unfold dicGet at ih ⊢
    rw [List.map_cons, List.find?_cons, List.find?_cons]
    by_cases h : p.1 = x
    · subst h
      simp
    · have h2 : ¬ ((.inr p.1 : L2.Key) = .inr x) := fun z => h (Sum.inr.inj z)
      rw [decide_eq_false h, decide_eq_false h2]
      exact ih
end
section
variable {D : List Fn} {glo : Str → Option Val} {scr : List Int} {gas n : Nat} {T : Str → Nat} {ps : Ps} {S : Sto}
theorem look_get (ps : Ps) (x : Str) : dicGet (ps.map fun p => ((.inr p.1 : L2.Key), p.2)) (.inr x) = look ps x := get_str (g := fun a => a) x ps
theorem vDictP {Q : Val → Sto → Prop} (nd : (ps.map (·.1)).Nodup) (q : Q (.loc S.length) (S ++ [.dic (ps.map fun p => ((.inr p.1 : L2.Key), p.2))])) : V (pSq "dict" false (pv ps)) S Q := by
  refine R.vDict (pairs_str (g := fun a => a) ps) ?_
  rw [dic_nd (g := fun a => a) nd]
  exact q
theorem vDictK {ks : Ks} {Q : Val → Sto → Prop} (nd : (ks.map (·.1)).Nodup) (q : Q (.loc S.length) (S ++ [.dic (ks.map fun p => ((.inr p.1 : L2.Key), p.2.v))])) : V (pSq "dict" true (kvs ks)) S Q := by
  refine R.vDict (pairs_str (g := Kd.v) ks) ?_
  rw [dic_nd (g := Kd.v) nd]
  exact q
theorem holds_run (hv : Views D) (hh : Has D "holds" bHolds 2 2) (hp : PsOk T ps) {s : Sen} (ok : s.Ok T) {m : Nat} (h : s.need ≤ m) : V ((K D glo scr gas (m + 1)).call "holds" [.tup (pv ps), s.v]) S fun v S' => v = .bl (s.so (look ps)) ∧ Fr F0 S S' := by
  refine call_at hh rfl ?_
  (repeat (first | refine St.go ?_ | refine R.eVar rfl ?_ | refine ⟨_, rfl, ?_⟩ | refine R.sAug rfl ?_ | refine R.vSliT rfl rfl ?_ | refine R.vIsiNo rfl ?_ | refine R.vIsiBl rfl ?_ | refine R.vIsiIn rfl ?_ | refine R.vIsiSt rfl ?_ | refine R.vIsiTu rfl ?_ | refine R.ssCons ?_ | refine R.ssNil ?_ | refine R.w_iteT ?_ | refine R.w_iteF ?_))
  refine vDictP hp.nd ?_
  (repeat (first | refine St.go ?_ | refine R.eVar rfl ?_ | refine ⟨_, rfl, ?_⟩ | refine R.sAug rfl ?_ | refine R.vSliT rfl rfl ?_ | refine R.vIsiNo rfl ?_ | refine R.vIsiBl rfl ?_ | refine R.vIsiIn rfl ?_ | refine R.vIsiSt rfl ?_ | refine R.vIsiTu rfl ?_ | refine R.ssCons ?_ | refine R.ssNil ?_ | refine R.w_iteT ?_ | refine R.w_iteF ?_))
  refine R.w_mono (so_run hv hp.ok (List.getElem?_concat_length (l := S)) (look_get ps) s m h ok) ?_
  rintro v S' ⟨rfl, rfl⟩
  (repeat (first | refine St.go ?_ | refine R.eVar rfl ?_ | refine ⟨_, rfl, ?_⟩ | refine R.sAug rfl ?_ | refine R.vSliT rfl rfl ?_ | refine R.vIsiNo rfl ?_ | refine R.vIsiBl rfl ?_ | refine R.vIsiIn rfl ?_ | refine R.vIsiSt rfl ?_ | refine R.vIsiTu rfl ?_ | refine R.ssCons ?_ | refine R.ssNil ?_ | refine R.w_iteT ?_ | refine R.w_iteF ?_))
  exact ⟨rfl, Fr.alloc⟩
theorem same_run (hh : Has D "_law_same" bSame 2 2) (h : 1 ≤ n) {a b : Bool} : V ((K D glo scr gas n).call "_law_same" [.bl a, .bl b]) S fun v S' => v = .bl (a == b) ∧ S' = S := by
  obtain ⟨m, rfl⟩ : ∃ m, n = m + 1 := ⟨n - 1, by omega⟩
  refine call_at hh rfl ?_
  cases a <;> cases b <;> ((repeat (first | refine St.go ?_ | refine R.eVar rfl ?_ | refine ⟨_, rfl, ?_⟩ | refine R.sAug rfl ?_ | refine R.vSliT rfl rfl ?_ | refine R.vIsiNo rfl ?_ | refine R.vIsiBl rfl ?_ | refine R.vIsiIn rfl ?_ | refine R.vIsiSt rfl ?_ | refine R.vIsiTu rfl ?_ | refine R.ssCons ?_ | refine R.ssNil ?_ | refine R.w_iteT ?_ | refine R.w_iteF ?_)); exact ⟨rfl, rfl⟩)
end
/-! ### rows of pairs -/
theorem look_iff {ps : Ps} (nd : (ps.map (·.1)).Nodup) {x : Str} {a : Val} : look ps x = some a ↔ (x, a) ∈ ps := by
  constructor
  · intro h
    unfold look at h
    cases e : ps.find? (fun p => decide (p.1 = x)) with
    | none => rw [e] at h; cases h
    | some p =>
      rw [e] at h
      have h2 : p.1 = x := of_decide_eq_true (by simpa using List.find?_some e)
      have h3 := List.mem_of_find?_eq_some e
      cases h
      subst h2
      exact h3
  · intro h
    exact look_mem nd h
theorem look_perm {ps qs : Ps} (h : ps.Perm qs) (nd : (ps.map (·.1)).Nodup) : look ps = look qs := by
  funext x
  have nd2 : (qs.map (·.1)).Nodup := (h.map _).nodup_iff.mp nd
  cases h1 : look ps x with
  | some a => exact ((look_iff nd2).mpr (h.mem_iff.mp ((look_iff nd).mp h1))).symm
  | none =>
    cases h2 : look qs x with
    | none => rfl
    | some a => rw [(look_iff nd).mpr (h.mem_iff.mpr ((look_iff nd2).mp h2))] at h1; cases h1
theorem PsOk.of {T : Str → Nat} {ps : Ps} (nd : (ps.map (·.1)).Nodup) (h : ∀ p ∈ ps, AnsS (T p.1) p.2) (hl : ps.length ≤ 100) : PsOk T ps := ⟨nd, fun x a e => h (x, a) ((look_iff nd).mp e), hl⟩
theorem perm_map {f : (Str × Val) → Val} {us vs : List Val} (h : us.Perm vs) : ∀ l : Ps, vs = l.map f → ∃ l' : Ps, us = l'.map f ∧ l'.Perm l := by
  induction h with
  | nil => intro l e; cases l with
    | nil => exact ⟨[], rfl, .nil⟩
    | cons _ _ => cases e
  | cons x h ih => intro l e; cases l with
    | nil => cases e
    | cons a l =>
      have e := List.cons.inj e
      obtain ⟨l', e1, e2⟩ := ih l e.2
      exact ⟨a :: l', by rw [e.1, e1]; rfl, e2.cons a⟩
  | swap x y l0 => intro l e; cases l with
    | nil => cases e
    | cons a l => cases l with
      | nil => have e := List.cons.inj e; cases e.2
      | cons b l =>
        have e := List.cons.inj e
        have e2 := List.cons.inj e.2
        exact ⟨b :: a :: l, by rw [e.1, e2.1, e2.2]; rfl, .swap a b l⟩
  | trans h1 h2 ih1 ih2 =>
    intro l e
    obtain ⟨l2, e2, p2⟩ := ih2 l e
    obtain ⟨l1, e1, p1⟩ := ih1 l2 e2
    exact ⟨l1, e1, p1.trans p2⟩
theorem perm_pv {us : List Val} {ps : Ps} (h : us.Perm (pv ps)) : ∃ qs : Ps, us = pv qs ∧ qs.Perm ps := perm_map h ps rfl
/-! ### terms by rows of parts -/
def Prts.ofL : List Prt → Prts
  | [] => .nil
  | p :: l => .cons p (Prts.ofL l)
def Prts.toL : Prts → List Prt
  | .nil => []
  | .cons p l => p :: l.toL
theorem ofL_toL : ∀ ps : Prts, Prts.ofL ps.toL = ps
  | .nil => rfl
  | .cons p l => by show Prts.cons p (Prts.ofL l.toL) = _; rw [ofL_toL]
theorem ofL_vs : ∀ l : List Prt, (Prts.ofL l).vs = l.map Prt.v
  | [] => rfl
  | p :: l => by show p.v :: (Prts.ofL l).vs = _; rw [ofL_vs]; rfl
theorem ofL_pts {P : Str → Option Val} : ∀ l : List Prt, (Prts.ofL l).pts P = l.map (Prt.pt P)
  | [] => rfl
  | p :: l => by show p.pt P :: (Prts.ofL l).pts P = _; rw [ofL_pts]; rfl
theorem ofL_ok {T : Str → Nat} : ∀ l : List Prt, (Prts.ofL l).Ok T ↔ ∀ p ∈ l, p.Ok T
  | [] => by simp [Prts.ofL, Prts.Ok]
  | p :: l => by
    show p.Ok T ∧ (Prts.ofL l).Ok T ↔ _
    rw [ofL_ok]
    simp
theorem ofL_need {n : Nat} : ∀ l : List Prt, (Prts.ofL l).need ≤ n ↔ ∀ p ∈ l, p.need ≤ n
  | [] => by simp [Prts.ofL, Prts.need]
  | p :: l => by
    show max p.need (Prts.ofL l).need ≤ n ↔ _
    rw [Nat.max_le, ofL_need]
    simp
section
variable {D : List Fn} {glo : Str → Option Val} {scr : List Int} {gas m : Nat} {T : Str → Nat} {ps : Ps} {S : Sto}
abbrev tv (b : Int) (L : List Prt) : Val := .tup [.int b, .tup (L.map Prt.v)]
abbrev tsum (ps : Ps) (L : List Prt) : Int := (L.map (Prt.pt (look ps))).sum
theorem value_run (hv : Views D) (hh : Has D "value" bValue 2 2) (hp : PsOk T ps) {b : Int} {L : List Prt} (ok : ∀ p ∈ L, p.Ok T ∧ p.need ≤ m) (hl : L.length ≤ 1000000) : V ((K D glo scr gas (m + 2)).call "value" [.tup (pv ps), tv b L]) S fun v S' => v = .int (b + tsum ps L) ∧ Fr F0 S S' := by
  refine call_at hh rfl ?_
  (repeat (first | refine St.go ?_ | refine R.eVar rfl ?_ | refine ⟨_, rfl, ?_⟩ | refine R.sAug rfl ?_ | refine R.vSliT rfl rfl ?_ | refine R.vIsiNo rfl ?_ | refine R.vIsiBl rfl ?_ | refine R.vIsiIn rfl ?_ | refine R.vIsiSt rfl ?_ | refine R.vIsiTu rfl ?_ | refine R.ssCons ?_ | refine R.ssNil ?_ | refine R.w_iteT ?_ | refine R.w_iteF ?_))
  refine vDictP hp.nd ?_
  (repeat (first | refine St.go ?_ | refine R.eVar rfl ?_ | refine ⟨_, rfl, ?_⟩ | refine R.sAug rfl ?_ | refine R.vSliT rfl rfl ?_ | refine R.vIsiNo rfl ?_ | refine R.vIsiBl rfl ?_ | refine R.vIsiIn rfl ?_ | refine R.vIsiSt rfl ?_ | refine R.vIsiTu rfl ?_ | refine R.ssCons ?_ | refine R.ssNil ?_ | refine R.w_iteT ?_ | refine R.w_iteF ?_))
  have hr := comes_run (glo := glo) (scr := scr) (gas := gas) (b := b) hv (parts_run (glo := glo) (scr := scr) (gas := gas) hv hp.ok (List.getElem?_concat_length (l := S)) (look_get ps) (Prts.ofL L) m ((ofL_need L).mpr fun p hp => (ok p hp).2) ((ofL_ok L).mpr fun p hp => (ok p hp).1)) (by rw [ofL_vs, List.length_map]; exact Nat.le_trans hl (by decide))
  rw [ofL_vs, ofL_pts] at hr
  refine R.w_mono hr ?_
  rintro v S' ⟨rfl, rfl⟩
  (repeat (first | refine St.go ?_ | refine R.eVar rfl ?_ | refine ⟨_, rfl, ?_⟩ | refine R.sAug rfl ?_ | refine R.vSliT rfl rfl ?_ | refine R.vIsiNo rfl ?_ | refine R.vIsiBl rfl ?_ | refine R.vIsiIn rfl ?_ | refine R.vIsiSt rfl ?_ | refine R.vIsiTu rfl ?_ | refine R.ssCons ?_ | refine R.ssNil ?_ | refine R.w_iteT ?_ | refine R.w_iteF ?_))
  exact ⟨rfl, Fr.alloc⟩
theorem lsumL_run (hv : Lso D) (hp : PsOk T ps) {b : Int} {L : List Prt} (ok : ∀ p ∈ L, p.Ok T ∧ p.need ≤ m) : V ((K D glo scr gas (m + 1)).call "_law_sum" [.tup (pv ps), tv b L]) S fun v S' => v = .int (b + tsum ps L) ∧ Fr F0 S S' := by
  have hr := lsum_run (glo := glo) (scr := scr) (gas := gas) (b := b) (S := S) hv (lparts_run (glo := glo) (scr := scr) (gas := gas) hv hp (Prts.ofL L) m ((ofL_need L).mpr fun p hp => by have := (ok p hp).2; omega) ((ofL_ok L).mpr fun p hp => (ok p hp).1))
  rw [ofL_vs, ofL_pts] at hr
  exact hr
theorem sum_bound {c : Int} (hc : 0 ≤ c) : ∀ {l : List Int}, (∀ x ∈ l, -c ≤ x ∧ x ≤ c) → -(c * l.length) ≤ l.sum ∧ l.sum ≤ c * l.length
  | [], _ => by simp
  | x :: l, h => by
    have h1 := h x (by simp)
    have h2 := sum_bound hc (l := l) fun y hy => h y (by simp [hy])
    have e : c * (((x :: l).length : Nat) : Int) = c * (l.length : Int) + c := by
      rw [List.length_cons, Int.natCast_succ, Int.mul_add, Int.mul_one]
    rw [List.sum_cons, e]
    omega
theorem pt_bound (hp : POk T (look ps)) : ∀ {p : Prt}, p.Ok T → -1000000000 ≤ p.pt (look ps) ∧ p.pt (look ps) ≤ 1000000000
  | .whr s w, ok => by
    obtain ⟨_, h1, h2⟩ := ok
    unfold Prt.pt
    split <;> omega
  | .times x w, ok => by
    have ok : T x = 3 ∧ -1000000 ≤ w ∧ w ≤ 1000000 := ok
    unfold Prt.pt
    cases hl : look ps x with
    | none => exact ⟨show (-1000000000 : Int) ≤ 0 by decide, show (0 : Int) ≤ 1000000000 by decide⟩
    | some a =>
      obtain ⟨h, _⟩ | ⟨h, _⟩ | ⟨_, i, i0, i1, rfl⟩ := hp x a hl
      · rw [ok.1] at h; cases h
      · rw [ok.1] at h; cases h
      · dsimp only
        have h1 : (w * i).natAbs ≤ 1000000 * 1000 := by
          rw [Int.natAbs_mul]
          exact Nat.mul_le_mul (by omega) (by omega)
        omega
  | .of x ws, ok => by
    have ok : ((T x = 1 ∨ T x = 2) ∧ ws.length ≤ 64) ∧ ∀ w ∈ ws, -1000000 ≤ w ∧ w ≤ 1000000 := ok
    unfold Prt.pt
    cases hl : look ps x with
    | none => exact ⟨show (-1000000000 : Int) ≤ 0 by decide, show (0 : Int) ≤ 1000000000 by decide⟩
    | some a =>
      dsimp only
      have hpl : (plc a).length ≤ 64 := by
        obtain ⟨_, i, _, rfl⟩ | ⟨_, l, _, _, hll, rfl⟩ | ⟨_, i, _, _, rfl⟩ := hp x a hl
        · show 1 ≤ 64; decide
        · rw [plc_tup]; exact hll
        · show 1 ≤ 64; decide
      have hb : ∀ y ∈ (plc a).map fun i => ws.getD i 0, -1000000 ≤ y ∧ y ≤ 1000000 := by
        intro y hy
        obtain ⟨i, _, rfl⟩ := List.mem_map.mp hy
        rw [List.getD_eq_getElem?_getD]
        cases e : ws[i]? with
        | none => simp
        | some w => exact ok.2 w (List.mem_of_getElem? e)
      have := sum_bound (c := 1000000) (by decide) hb
      rw [List.length_map] at this
      unfold ofS
      omega
theorem tsum_bound (hp : POk T (look ps)) {L : List Prt} (ok : ∀ p ∈ L, p.Ok T) (hl : L.length ≤ 1000000) : -1000000000000000 ≤ tsum ps L ∧ tsum ps L ≤ 1000000000000000 := by
  have := sum_bound (c := 1000000000) (by decide) (l := L.map (Prt.pt (look ps))) fun x hx => by
    obtain ⟨p, hp', rfl⟩ := List.mem_map.mp hx
    exact pt_bound hp (ok p hp')
  rw [List.length_map] at this
  unfold tsum
  omega
theorem tsum_app {L M : List Prt} : tsum ps (L ++ M) = tsum ps L + tsum ps M := by unfold tsum; rw [List.map_append, List.sum_append]
theorem tsum_rev {L : List Prt} : tsum ps L.reverse = tsum ps L := by
  induction L with
  | nil => rfl
  | cons p L ih =>
    rw [List.reverse_cons, tsum_app, ih]
    simp [tsum, Int.add_comm]
end
end G

end

section
set_option maxHeartbeats 0
namespace Hk08
open PySem PySem.Spec PyProof.Rows L2

def stAt (i : Nat) : Stmt := PySem.Challenge.pw_askfolds_k08_terms_worked_out.main.body.getD i (.Pass ⟨0, 0, 0, 0⟩)
def cons : List (PySem.Str × Ev.Val) := []
def frees : List PySem.Str := ["len", "isinstance", "repr", "min", "max", "int", "tuple", "list", "all", "any", "sum", "range", "enumerate", "dict"]
def f_value : Ev.Fn := ⟨"value", ["pairs", "term"], ["pairs", "term"], (.cons (.ret (.call "comes_to" (.cons (.sq "dict" (.var 0)) (.cons (.var 1) .nil)))) .nil)⟩
def d_value : Ev.Dd := ⟨f_value, defArgs (stAt 1), defBody (stAt 1), defScope (stAt 1)⟩
def f_is_so : Ev.Fn := ⟨"is_so", ["known", "sentence"], ["known", "sentence", "word", "one"], (.cons (.set (.nam 2) (.idx (.var 1) (.int 0))) (.cons (.ifs (.cmp .Eq (.var 2) (.str "given")) (.cons (.ret (.cmp .In (.idx (.var 1) (.int 1)) (.var 0))) .nil) .nil) (.cons (.ifs (.cmp .Eq (.var 2) (.str "is")) (.cons (.ret (.and (.cmp .In (.idx (.var 1) (.int 1)) (.var 0)) (.cmp .Eq (.idx (.var 0) (.idx (.var 1) (.int 1))) (.idx (.var 1) (.int 2))))) .nil) .nil) (.cons (.ifs (.cmp .Eq (.var 2) (.str "has")) (.cons (.ret (.and (.cmp .In (.idx (.var 1) (.int 1)) (.var 0)) (.cmp .In (.idx (.var 1) (.int 2)) (.idx (.var 0) (.idx (.var 1) (.int 1)))))) .nil) .nil) (.cons (.ifs (.cmp .Eq (.var 2) (.str "least")) (.cons (.ret (.cmp .GtE (.call "comes_to" (.cons (.var 0) (.cons (.idx (.var 1) (.int 1)) .nil))) (.idx (.var 1) (.int 2)))) .nil) .nil) (.cons (.ifs (.cmp .Eq (.var 2) (.str "not")) (.cons (.ret (.not (.call "is_so" (.cons (.var 0) (.cons (.idx (.var 1) (.int 1)) .nil))))) .nil) .nil) (.cons (.ifs (.cmp .Eq (.var 2) (.str "all")) (.cons (.ret (.sq "all" (.com [3] (.nam 3) (.seq (.idx (.var 1) (.int 1))) (.bl true) (.call "is_so" (.cons (.var 0) (.cons (.var 3) .nil)))))) .nil) .nil) (.cons (.ret (.sq "any" (.com [3] (.nam 3) (.seq (.idx (.var 1) (.int 1))) (.bl true) (.call "is_so" (.cons (.var 0) (.cons (.var 3) .nil)))))) .nil))))))))⟩
def d_is_so : Ev.Dd := ⟨f_is_so, defArgs (stAt 2), defBody (stAt 2), defScope (stAt 2)⟩
def f_comes_to : Ev.Fn := ⟨"comes_to", ["known", "term"], ["known", "term", "part"], (.cons (.ret (.bin .Add (.idx (.var 1) (.int 0)) (.sq "sum" (.com [2] (.nam 2) (.seq (.idx (.var 1) (.int 1))) (.bl true) (.call "part_of" (.cons (.var 0) (.cons (.var 2) .nil))))))) .nil)⟩
def d_comes_to : Ev.Dd := ⟨f_comes_to, defArgs (stAt 3), defBody (stAt 3), defScope (stAt 3)⟩
def f_part_of : Ev.Fn := ⟨"part_of", ["known", "part"], ["known", "part", "word", "thing", "weight", "answer", "places", "place"], (.cons (.set (.tup (.cons (.nam 2) (.cons (.nam 3) (.cons (.nam 4) .nil)))) (.var 1)) (.cons (.ifs (.cmp .Eq (.var 2) (.str "where")) (.cons (.ret (.ite (.call "is_so" (.cons (.var 0) (.cons (.var 3) .nil))) (.var 4) (.int 0))) .nil) .nil) (.cons (.ifs (.cmp .NotIn (.var 3) (.var 0)) (.cons (.ret (.int 0)) .nil) .nil) (.cons (.set (.nam 5) (.idx (.var 0) (.var 3))) (.cons (.ifs (.cmp .Eq (.var 2) (.str "times")) (.cons (.ret (.bin .Mult (.var 4) (.var 5))) .nil) .nil) (.cons (.set (.nam 6) (.ite (.bi "isinstance" (.cons (.var 5) (.cons (.ty "tuple") .nil))) (.var 5) (.tup (.cons (.var 5) .nil)))) (.cons (.ret (.sq "sum" (.com [7] (.nam 7) (.seq (.var 6)) (.cmp .Lt (.var 7) (.bi "len" (.cons (.var 4) .nil))) (.idx (.var 4) (.var 7))))) .nil)))))))⟩
def d_part_of : Ev.Dd := ⟨f_part_of, defArgs (stAt 4), defBody (stAt 4), defScope (stAt 4)⟩
def f__law_feed : Ev.Fn := ⟨"_law_feed", ["_law_script"], ["_law_script"], (.cons (.ret (.lst (.cons (.sli (.var 0) .non (.int 63)) (.cons (.int 0) (.cons (.int 0) (.cons (.int 0) .nil)))))) .nil)⟩
def d__law_feed : Ev.Dd := ⟨f__law_feed, defArgs (stAt 6), defBody (stAt 6), defScope (stAt 6)⟩
def f__law_draw : Ev.Fn := ⟨"_law_draw", ["_law_feed_here", "_law_many"], ["_law_feed_here", "_law_many", "_law_told", "_law_cell", "_law_turn", "_law_mixed_here"], (.cons (.augs (.var 0) (.int 3) .Add (.int 1)) (.cons (.ifs (.cmp .Gt (.idx (.var 0) (.int 2)) (.int 0)) (.cons (.set (.nam 2) (.bin .Mod (.idx (.var 0) (.int 2)) (.var 1))) (.cons (.sub (.var 0) (.int 2) (.bin .FloorDiv (.idx (.var 0) (.int 2)) (.var 1))) (.cons (.ret (.var 2)) .nil))) .nil) (.cons (.set (.nam 3) (.ite (.cmp .Eq (.idx (.var 0) (.int 0)) (.lst .nil)) (.int 7) (.idx (.idx (.var 0) (.int 0)) (.bin .Mod (.idx (.var 0) (.int 1)) (.bi "len" (.cons (.idx (.var 0) (.int 0)) .nil)))))) (.cons (.augs (.var 0) (.int 1) .Add (.int 1)) (.cons (.ifs (.and (.cmp .GtE (.var 3) (.bin .Pow (.int 10) (.int 18))) (.cmp .LtE (.idx (.var 0) (.int 1)) (.bi "len" (.cons (.idx (.var 0) (.int 0)) .nil)))) (.cons (.sub (.var 0) (.int 2) (.bin .FloorDiv (.var 3) (.var 1))) (.cons (.ret (.bin .Mod (.var 3) (.var 1))) .nil)) .nil) (.cons (.set (.nam 4) (.idx (.var 0) (.int 3))) (.cons (.set (.nam 5) (.bin .Mod (.bin .Add (.bin .Add (.bin .Mod (.var 3) (.int 2147483629)) (.bin .Mult (.bin .Mult (.int 69621) (.var 4)) (.var 4))) (.bin .Mult (.int 7) (.var 4))) (.int 2147483629))) (.cons (.set (.nam 5) (.bin .Mod (.bin .Add (.bin .Mult (.var 5) (.var 5)) (.bin .Mult (.int 48271) (.var 4))) (.int 2147483647))) (.cons (.set (.nam 5) (.bin .Mod (.bin .Add (.bin .Mult (.var 5) (.var 5)) (.bin .Mult (.int 16807) (.var 4))) (.int 2147483587))) (.cons (.ret (.bin .Mod (.bin .FloorDiv (.bin .Mod (.bin .Add (.bin .Mult (.var 5) (.var 5)) (.var 4)) (.int 2147483629)) (.int 131)) (.var 1))) .nil))))))))))⟩
def d__law_draw : Ev.Dd := ⟨f__law_draw, defArgs (stAt 7), defBody (stAt 7), defScope (stAt 7)⟩
def f__law_name : Ev.Fn := ⟨"_law_name", ["_law_feed_here", "_law_found"], ["_law_feed_here", "_law_found", "_law_signs", "_law_way", "_law_name_here", "_law_k", "_law_own"], (.cons (.set (.nam 2) (.str "abcdefghijklmnopqrstuvwxyz0123456789")) (.cons (.set (.nam 3) (.call "_law_draw" (.cons (.var 0) (.cons (.int 5) .nil)))) (.cons (.set (.nam 4) (.idx (.var 2) (.call "_law_draw" (.cons (.var 0) (.cons (.int 26) .nil))))) (.cons (.ifs (.or (.cmp .Gt (.var 3) (.int 1)) (.cmp .Eq (.var 1) (.lst .nil))) (.cons (.for_ (.nam 5) (.rng1 (.call "_law_draw" (.cons (.var 0) (.cons (.int 8) .nil)))) (.cons (.set (.nam 4) (.bin .Add (.var 4) (.idx (.var 2) (.call "_law_draw" (.cons (.var 0) (.cons (.int 36) .nil)))))) .nil)) .nil) (.cons (.set (.nam 6) (.idx (.var 1) (.call "_law_draw" (.cons (.var 0) (.cons (.bi "len" (.cons (.var 1) .nil)) .nil))))) (.cons (.set (.nam 4) (.ite (.cmp .Eq (.var 3) (.int 0)) (.sli (.var 6) .non (.bin .Add (.int 1) (.call "_law_draw" (.cons (.var 0) (.cons (.bi "len" (.cons (.var 6) .nil)) .nil))))) (.bin .Add (.sli (.var 6) .non (.int 7)) (.idx (.var 2) (.call "_law_draw" (.cons (.var 0) (.cons (.int 36) .nil))))))) .nil))) (.cons (.for_ (.nam 5) (.rng1 (.int 30)) (.cons (.ifs (.cmp .In (.var 4) (.var 1)) (.cons (.set (.nam 4) (.bin .Add (.sli (.var 4) .non (.neg (.int 1))) (.idx (.var 2) (.bin .Mod (.bin .Add (.met (.var 2) "index" (.cons (.idx (.var 4) (.neg (.int 1))) .nil)) (.int 1)) (.ite (.cmp .Eq (.bi "len" (.cons (.var 4) .nil)) (.int 1)) (.int 26) (.int 36)))))) .nil) .nil) .nil)) (.cons (.ret (.var 4)) .nil))))))⟩
def d__law_name : Ev.Dd := ⟨f__law_name, defArgs (stAt 8), defBody (stAt 8), defScope (stAt 8)⟩
def f__law_kind : Ev.Fn := ⟨"_law_kind", ["_law_feed_here"], ["_law_feed_here", "_law_way", "_law_low", "_law_wide", "_law_high"], (.cons (.set (.nam 1) (.call "_law_draw" (.cons (.var 0) (.cons (.int 3) .nil)))) (.cons (.ifs (.cmp .Eq (.var 1) (.int 0)) (.cons (.ret (.tup (.cons (.str "one") (.cons (.bin .Add (.int 1) (.call "_law_draw" (.cons (.var 0) (.cons (.int 6) .nil)))) .nil)))) .nil) .nil) (.cons (.ifs (.cmp .Eq (.var 1) (.int 1)) (.cons (.ret (.tup (.cons (.str "some") (.cons (.bin .Add (.int 1) (.call "_law_draw" (.cons (.var 0) (.cons (.int 4) .nil)))) .nil)))) .nil) .nil) (.cons (.set (.nam 2) (.ite (.cmp .Eq (.call "_law_draw" (.cons (.var 0) (.cons (.int 4) .nil))) (.int 0)) (.bin .Sub (.call "_law_draw" (.cons (.var 0) (.cons (.int 2001) .nil))) (.int 1000)) (.bin .Sub (.call "_law_draw" (.cons (.var 0) (.cons (.int 9) .nil))) (.int 4)))) (.cons (.set (.nam 3) (.call "_law_draw" (.cons (.var 0) (.cons (.int 4) .nil)))) (.cons (.set (.nam 4) (.ite (.cmp .Eq (.var 3) (.int 0)) (.var 2) (.int 1000))) (.cons (.ifs (.cmp .Gt (.var 3) (.int 1)) (.cons (.set (.nam 4) (.bi "min" (.cons (.int 1000) (.cons (.bin .Add (.var 2) (.call "_law_draw" (.cons (.var 0) (.cons (.int 7) .nil)))) .nil)))) .nil) .nil) (.cons (.ret (.tup (.cons (.str "number") (.cons (.var 2) (.cons (.var 4) .nil))))) .nil))))))))⟩
def d__law_kind : Ev.Dd := ⟨f__law_kind, defArgs (stAt 9), defBody (stAt 9), defScope (stAt 9)⟩
def f__law_reply : Ev.Fn := ⟨"_law_reply", ["_law_feed_here", "_law_kind_here"], ["_law_feed_here", "_law_kind_here", "_law_k", "_law_way"], (.cons (.ifs (.cmp .Eq (.idx (.var 1) (.int 0)) (.str "one")) (.cons (.ret (.call "_law_draw" (.cons (.var 0) (.cons (.idx (.var 1) (.int 1)) .nil)))) .nil) .nil) (.cons (.ifs (.cmp .Eq (.idx (.var 1) (.int 0)) (.str "some")) (.cons (.ret (.sq "tuple" (.com [2] (.nam 2) (.rng1 (.idx (.var 1) (.int 1))) (.cmp .Eq (.call "_law_draw" (.cons (.var 0) (.cons (.int 2) .nil))) (.int 1)) (.var 2)))) .nil) .nil) (.cons (.set (.nam 3) (.call "_law_draw" (.cons (.var 0) (.cons (.int 4) .nil)))) (.cons (.ifs (.cmp .Lt (.var 3) (.int 2)) (.cons (.ret (.idx (.var 1) (.bin .Add (.int 1) (.var 3)))) .nil) .nil) (.cons (.ret (.bin .Add (.idx (.var 1) (.int 1)) (.call "_law_draw" (.cons (.var 0) (.cons (.bin .Add (.bin .Sub (.idx (.var 1) (.int 2)) (.idx (.var 1) (.int 1))) (.int 1)) .nil))))) .nil)))))⟩
def d__law_reply : Ev.Dd := ⟨f__law_reply, defArgs (stAt 10), defBody (stAt 10), defScope (stAt 10)⟩
def f__law_weight : Ev.Fn := ⟨"_law_weight", ["_law_feed_here"], ["_law_feed_here"], (.cons (.ret (.ite (.cmp .Eq (.call "_law_draw" (.cons (.var 0) (.cons (.int 5) .nil))) (.int 0)) (.bin .Sub (.call "_law_draw" (.cons (.var 0) (.cons (.int 2001) .nil))) (.int 1000)) (.bin .Sub (.call "_law_draw" (.cons (.var 0) (.cons (.int 7) .nil))) (.int 3)))) .nil)⟩
def d__law_weight : Ev.Dd := ⟨f__law_weight, defArgs (stAt 11), defBody (stAt 11), defScope (stAt 11)⟩
def f__law_of : Ev.Fn := ⟨"_law_of", ["_law_feed_here", "_law_name_here", "_law_kind_here"], ["_law_feed_here", "_law_name_here", "_law_kind_here", "_law_k"], (.cons (.ifs (.cmp .Eq (.idx (.var 2) (.int 0)) (.str "number")) (.cons (.ret (.tup (.cons (.str "times") (.cons (.var 1) (.cons (.call "_law_weight" (.cons (.var 0) .nil)) .nil))))) .nil) .nil) (.cons (.ret (.tup (.cons (.str "of") (.cons (.var 1) (.cons (.sq "tuple" (.com [3] (.nam 3) (.rng1 (.call "_law_draw" (.cons (.var 0) (.cons (.int 9) .nil)))) (.bl true) (.call "_law_weight" (.cons (.var 0) .nil)))) .nil))))) .nil))⟩
def d__law_of : Ev.Dd := ⟨f__law_of, defArgs (stAt 12), defBody (stAt 12), defScope (stAt 12)⟩
def f__law_plain : Ev.Fn := ⟨"_law_plain", ["_law_feed_here", "_law_kinds_here", "_law_room"], ["_law_feed_here", "_law_kinds_here", "_law_room", "_law_name_here", "_law_kind_here", "_law_way", "_law_part", "_law_base", "_law_bar"], (.cons (.ifs (.cmp .Eq (.var 1) (.lst .nil)) (.cons (.ret (.ite (.cmp .Eq (.call "_law_draw" (.cons (.var 0) (.cons (.int 4) .nil))) (.int 0)) (.tup (.cons (.str "any") (.cons (.tup .nil) .nil))) (.tup (.cons (.str "all") (.cons (.tup .nil) .nil))))) .nil) .nil) (.cons (.set (.tup (.cons (.nam 3) (.cons (.nam 4) .nil))) (.idx (.var 1) (.call "_law_draw" (.cons (.var 0) (.cons (.bi "len" (.cons (.var 1) .nil)) .nil))))) (.cons (.set (.nam 5) (.call "_law_draw" (.cons (.var 0) (.cons (.int 4) .nil)))) (.cons (.ifs (.or (.cmp .Eq (.var 5) (.int 0)) (.and (.cmp .Lt (.var 5) (.int 3)) (.cmp .NotEq (.idx (.var 4) (.int 0)) (.str "number")))) (.cons (.ifs (.cmp .Gt (.var 5) (.int 0)) (.cons (.ret (.tup (.cons (.ite (.cmp .Eq (.idx (.var 4) (.int 0)) (.str "one")) (.str "is") (.str "has")) (.cons (.var 3) (.cons (.call "_law_draw" (.cons (.var 0) (.cons (.bin .Add (.idx (.var 4) (.int 1)) (.int 1)) .nil))) .nil))))) .nil) .nil) (.cons (.ret (.tup (.cons (.str "given") (.cons (.var 3) .nil)))) .nil)) .nil) (.cons (.ifs (.cmp .Lt (.idx (.var 2) (.int 0)) (.int 1)) (.cons (.ret (.tup (.cons (.str "given") (.cons (.var 3) .nil)))) .nil) .nil) (.cons (.augs (.var 2) (.int 0) .Sub (.int 1)) (.cons (.set (.nam 6) (.call "_law_of" (.cons (.var 0) (.cons (.var 3) (.cons (.var 4) .nil))))) (.cons (.set (.nam 7) (.bin .Sub (.call "_law_draw" (.cons (.var 0) (.cons (.int 7) .nil))) (.int 3))) (.cons (.set (.nam 8) (.bin .Sub (.bin .Add (.var 7) (.call "_law_draw" (.cons (.var 0) (.cons (.int 3) .nil)))) (.int 1))) (.cons (.ifs (.cmp .Eq (.idx (.var 4) (.int 0)) (.str "number")) (.cons (.aug 8 .Add (.bin .Mult (.idx (.var 6) (.int 2)) (.call "_law_reply" (.cons (.var 0) (.cons (.var 4) .nil))))) .nil) (.cons (.ifs (.cmp .NotEq (.idx (.var 6) (.int 2)) (.tup .nil)) (.cons (.aug 8 .Add (.idx (.idx (.var 6) (.int 2)) (.call "_law_draw" (.cons (.var 0) (.cons (.bi "len" (.cons (.idx (.var 6) (.int 2)) .nil)) .nil))))) .nil) .nil) .nil)) (.cons (.ret (.tup (.cons (.str "least") (.cons (.tup (.cons (.var 7) (.cons (.tup (.cons (.var 6) .nil)) .nil))) (.cons (.bi "max" (.cons (.neg (.bin .Pow (.int 10) (.int 6))) (.cons (.bi "min" (.cons (.bin .Pow (.int 10) (.int 6)) (.cons (.var 8) .nil))) .nil))) .nil))))) .nil)))))))))))⟩
def d__law_plain : Ev.Dd := ⟨f__law_plain, defArgs (stAt 13), defBody (stAt 13), defScope (stAt 13)⟩
def f__law_term : Ev.Fn := ⟨"_law_term", ["_law_feed_here", "_law_kinds_here", "_law_deep", "_law_room"], ["_law_feed_here", "_law_kinds_here", "_law_deep", "_law_room", "_law_bits", "_law_k", "_law_name_here", "_law_kind_here"], (.cons (.set (.nam 4) (.lst .nil)) (.cons (.for_ (.nam 5) (.rng1 (.call "_law_draw" (.cons (.var 0) (.cons (.int 4) .nil)))) (.cons (.ifs (.and (.cmp .Gt (.idx (.var 3) (.int 0)) (.int 1)) (.and (.cmp .Gt (.var 2) (.int 0)) (.or (.cmp .Eq (.var 1) (.lst .nil)) (.cmp .Eq (.call "_law_draw" (.cons (.var 0) (.cons (.int 3) .nil))) (.int 0))))) (.cons (.augs (.var 3) (.int 0) .Sub (.int 1)) (.cons (.expr (.met (.var 4) "append" (.cons (.tup (.cons (.str "where") (.cons (.call "_law_sentence" (.cons (.var 0) (.cons (.var 1) (.cons (.var 2) (.cons (.var 3) .nil))))) (.cons (.call "_law_weight" (.cons (.var 0) .nil)) .nil)))) .nil))) .nil)) (.cons (.ifs (.and (.cmp .Gt (.idx (.var 3) (.int 0)) (.int 0)) (.cmp .NotEq (.var 1) (.lst .nil))) (.cons (.augs (.var 3) (.int 0) .Sub (.int 1)) (.cons (.set (.tup (.cons (.nam 6) (.cons (.nam 7) .nil))) (.idx (.var 1) (.call "_law_draw" (.cons (.var 0) (.cons (.bi "len" (.cons (.var 1) .nil)) .nil))))) (.cons (.expr (.met (.var 4) "append" (.cons (.call "_law_of" (.cons (.var 0) (.cons (.var 6) (.cons (.var 7) .nil)))) .nil))) .nil))) .nil) .nil)) .nil)) (.cons (.ret (.tup (.cons (.bin .Sub (.call "_law_draw" (.cons (.var 0) (.cons (.int 21) .nil))) (.int 10)) (.cons (.sq "tuple" (.var 4)) .nil)))) .nil)))⟩
def d__law_term : Ev.Dd := ⟨f__law_term, defArgs (stAt 14), defBody (stAt 14), defScope (stAt 14)⟩
def f__law_sentence : Ev.Fn := ⟨"_law_sentence", ["_law_feed_here", "_law_kinds_here", "_law_deep", "_law_room"], ["_law_feed_here", "_law_kinds_here", "_law_deep", "_law_room", "_law_way", "_law_found", "_law_k"], (.cons (.augs (.var 3) (.int 0) .Sub (.int 1)) (.cons (.set (.nam 4) (.call "_law_draw" (.cons (.var 0) (.cons (.int 7) .nil)))) (.cons (.ifs (.or (.cmp .Lt (.var 2) (.int 2)) (.or (.cmp .Lt (.idx (.var 3) (.int 0)) (.int 1)) (.cmp .Lt (.var 4) (.int 2)))) (.cons (.ret (.call "_law_plain" (.cons (.var 0) (.cons (.var 1) (.cons (.var 3) .nil))))) .nil) .nil) (.cons (.ifs (.cmp .Eq (.var 4) (.int 2)) (.cons (.ret (.tup (.cons (.str "not") (.cons (.call "_law_sentence" (.cons (.var 0) (.cons (.var 1) (.cons (.bin .Sub (.var 2) (.int 1)) (.cons (.var 3) .nil))))) .nil)))) .nil) .nil) (.cons (.ifs (.cmp .Eq (.var 4) (.int 3)) (.cons (.ret (.tup (.cons (.str "least") (.cons (.call "_law_term" (.cons (.var 0) (.cons (.var 1) (.cons (.bin .Sub (.var 2) (.int 1)) (.cons (.var 3) .nil))))) (.cons (.bin .Sub (.call "_law_draw" (.cons (.var 0) (.cons (.int 21) .nil))) (.int 10)) .nil))))) .nil) .nil) (.cons (.set (.nam 5) (.lst .nil)) (.cons (.for_ (.nam 6) (.rng1 (.call "_law_draw" (.cons (.var 0) (.cons (.int 4) .nil)))) (.cons (.ifs (.cmp .Gt (.idx (.var 3) (.int 0)) (.int 0)) (.cons (.expr (.met (.var 5) "append" (.cons (.call "_law_sentence" (.cons (.var 0) (.cons (.var 1) (.cons (.bin .Sub (.var 2) (.int 1)) (.cons (.var 3) .nil))))) .nil))) .nil) .nil) .nil)) (.cons (.ret (.tup (.cons (.ite (.cmp .Lt (.var 4) (.int 6)) (.str "all") (.str "any")) (.cons (.sq "tuple" (.var 5)) .nil)))) .nil))))))))⟩
def d__law_sentence : Ev.Dd := ⟨f__law_sentence, defArgs (stAt 15), defBody (stAt 15), defScope (stAt 15)⟩
def f__law_kinds : Ev.Fn := ⟨"_law_kinds", ["_law_feed_here", "_law_many"], ["_law_feed_here", "_law_many", "_law_kinds_here", "_law_k", "_law_name_here", "_law_own", "_law_kind_here"], (.cons (.set (.nam 2) (.lst .nil)) (.cons (.for_ (.nam 3) (.rng1 (.var 1)) (.cons (.set (.nam 4) (.call "_law_name" (.cons (.var 0) (.cons (.com [5, 6] (.tup (.cons (.nam 5) (.cons (.nam 6) .nil))) (.seq (.var 2)) (.bl true) (.var 5)) .nil)))) (.cons (.expr (.met (.var 2) "append" (.cons (.tup (.cons (.var 4) (.cons (.ite (.and (.cmp .Gt (.var 3) (.int 0)) (.cmp .Eq (.call "_law_draw" (.cons (.var 0) (.cons (.int 4) .nil))) (.int 0))) (.idx (.idx (.var 2) (.neg (.int 1))) (.int 1)) (.call "_law_kind" (.cons (.var 0) .nil))) .nil))) .nil))) .nil))) (.cons (.ret (.sq "tuple" (.var 2))) .nil)))⟩
def d__law_kinds : Ev.Dd := ⟨f__law_kinds, defArgs (stAt 16), defBody (stAt 16), defScope (stAt 16)⟩
def f__law_so : Ev.Fn := ⟨"_law_so", ["_law_pairs", "_law_sentence_here"], ["_law_pairs", "_law_sentence_here", "_law_word", "_law_thing", "_law_wanted", "_law_told", "_law_one", "_law_found", "_law_name_here", "_law_answer"], (.cons (.set (.tup (.cons (.nam 2) (.cons (.nam 3) .nil))) (.tup (.cons (.idx (.var 1) (.int 0)) (.cons (.idx (.var 1) (.int 1)) .nil)))) (.cons (.ifs (.cmp .Eq (.var 2) (.str "not")) (.cons (.ret (.bin .Sub (.int 1) (.call "_law_so" (.cons (.var 0) (.cons (.var 3) .nil))))) .nil) .nil) (.cons (.ifs (.or (.cmp .Eq (.var 2) (.str "all")) (.cmp .Eq (.var 2) (.str "any"))) (.cons (.set (.nam 4) (.bi "int" (.cons (.cmp .Eq (.var 2) (.str "all")) .nil))) (.cons (.set (.nam 5) (.int 1)) (.cons (.for_ (.nam 6) (.seq (.var 3)) (.cons (.set (.nam 5) (.bin .Mult (.var 5) (.bi "int" (.cons (.cmp .Eq (.call "_law_so" (.cons (.var 0) (.cons (.var 6) .nil))) (.var 4)) .nil)))) .nil)) (.cons (.ret (.ite (.cmp .Eq (.var 4) (.int 1)) (.var 5) (.bin .Sub (.int 1) (.var 5)))) .nil)))) .nil) (.cons (.ifs (.cmp .Eq (.var 2) (.str "least")) (.cons (.ret (.bi "int" (.cons (.cmp .GtE (.call "_law_sum" (.cons (.var 0) (.cons (.var 3) .nil))) (.idx (.var 1) (.int 2))) .nil))) .nil) .nil) (.cons (.set (.nam 7) (.com [8, 9] (.tup (.cons (.nam 8) (.cons (.nam 9) .nil))) (.seq (.var 0)) (.cmp .Eq (.var 8) (.var 3)) (.var 9))) (.cons (.ifs (.cmp .Eq (.var 2) (.str "given")) (.cons (.ret (.bi "len" (.cons (.var 7) .nil))) .nil) .nil) (.cons (.ifs (.cmp .Eq (.var 2) (.str "is")) (.cons (.ret (.met (.var 7) "count" (.cons (.idx (.var 1) (.int 2)) .nil))) .nil) .nil) (.cons (.ret (.sq "sum" (.com [9] (.nam 9) (.seq (.var 7)) (.bl true) (.met (.var 9) "count" (.cons (.idx (.var 1) (.int 2)) .nil))))) .nil))))))))⟩
def d__law_so : Ev.Dd := ⟨f__law_so, defArgs (stAt 17), defBody (stAt 17), defScope (stAt 17)⟩
def f__law_sum : Ev.Fn := ⟨"_law_sum", ["_law_pairs", "_law_term_here"], ["_law_pairs", "_law_term_here", "_law_told", "_law_word", "_law_thing", "_law_weight_here", "_law_name_here", "_law_answer", "_law_places", "_law_k", "_law_w"], (.cons (.set (.nam 2) (.idx (.var 1) (.int 0))) (.cons (.for_ (.tup (.cons (.nam 3) (.cons (.nam 4) (.cons (.nam 5) .nil)))) (.seq (.idx (.var 1) (.int 1))) (.cons (.ifs (.cmp .Eq (.var 3) (.str "where")) (.cons (.aug 2 .Add (.bin .Mult (.var 5) (.call "_law_so" (.cons (.var 0) (.cons (.var 4) .nil))))) .nil) .nil) (.cons (.for_ (.tup (.cons (.nam 6) (.cons (.nam 7) .nil))) (.seq (.var 0)) (.cons (.ifs (.and (.cmp .Eq (.var 3) (.str "times")) (.cmp .Eq (.var 6) (.var 4))) (.cons (.aug 2 .Add (.bin .Mult (.var 5) (.var 7))) .nil) .nil) (.cons (.ifs (.and (.cmp .Eq (.var 3) (.str "of")) (.cmp .Eq (.var 6) (.var 4))) (.cons (.set (.nam 8) (.ite (.bi "isinstance" (.cons (.var 7) (.cons (.ty "tuple") .nil))) (.var 7) (.tup (.cons (.var 7) .nil)))) (.cons (.aug 2 .Add (.sq "sum" (.com [9, 10] (.tup (.cons (.nam 9) (.cons (.nam 10) .nil))) (.enum (.var 5)) (.cmp .In (.var 9) (.var 8)) (.var 10)))) .nil)) .nil) .nil))) .nil))) (.cons (.ret (.var 2)) .nil)))⟩
def d__law_sum : Ev.Dd := ⟨f__law_sum, defArgs (stAt 18), defBody (stAt 18), defScope (stAt 18)⟩
def f__law_mixed : Ev.Fn := ⟨"_law_mixed", ["_law_feed_here", "_law_pairs"], ["_law_feed_here", "_law_pairs", "_law_found", "_law_pair"], (.cons (.set (.nam 2) (.lst .nil)) (.cons (.for_ (.nam 3) (.seq (.var 1)) (.cons (.expr (.met (.var 2) "insert" (.cons (.call "_law_draw" (.cons (.var 0) (.cons (.bin .Add (.bi "len" (.cons (.var 2) .nil)) (.int 1)) .nil))) (.cons (.var 3) .nil)))) .nil)) (.cons (.ret (.sq "tuple" (.var 2))) .nil)))⟩
def d__law_mixed : Ev.Dd := ⟨f__law_mixed, defArgs (stAt 19), defBody (stAt 19), defScope (stAt 19)⟩
def f__law_is : Ev.Fn := ⟨"_law_is", ["_law_told", "_law_due"], ["_law_told", "_law_due"], (.cons (.ret (.and (.bi "isinstance" (.cons (.var 0) (.cons (.ty "int") .nil))) (.and (.cmp .IsNot (.var 0) (.bl true)) (.and (.cmp .IsNot (.var 0) (.bl false)) (.cmp .Eq (.var 0) (.var 1)))))) .nil)⟩
def d__law_is : Ev.Dd := ⟨f__law_is, defArgs (stAt 20), defBody (stAt 20), defScope (stAt 20)⟩
def f__law_by_hand : Ev.Fn := ⟨"_law_by_hand", [], ["_law_pairs", "_law_dues", "_law_term_here", "_law_due"], (.cons (.set (.nam 0) (.tup (.cons (.tup (.cons (.str "n") (.cons (.neg (.int 1000)) .nil))) (.cons (.tup (.cons (.str "s") (.cons (.tup (.cons (.int 0) (.cons (.int 1) (.cons (.int 3) .nil)))) .nil))) (.cons (.tup (.cons (.str "m") (.cons (.int 7) .nil))) (.cons (.tup (.cons (.str "o") (.cons (.int 2) .nil))) .nil)))))) (.cons (.set (.nam 1) (.lst (.cons (.tup (.cons (.tup (.cons (.int 0) (.cons (.tup .nil) .nil))) (.cons (.int 0) .nil))) (.cons (.tup (.cons (.tup (.cons (.neg (.bin .Pow (.int 10) (.int 6))) (.cons (.tup .nil) .nil))) (.cons (.neg (.bin .Pow (.int 10) (.int 6))) .nil))) (.cons (.tup (.cons (.tup (.cons (.int 1) (.cons (.tup (.cons (.tup (.cons (.str "times") (.cons (.str "n") (.cons (.int 1000) .nil)))) .nil)) .nil))) (.cons (.bin .Sub (.int 1) (.bin .Pow (.int 10) (.int 6))) .nil))) .nil))))) (.cons (.expr (.ext (.var 1) (.lst (.cons (.tup (.cons (.tup (.cons (.int 1) (.cons (.tup (.cons (.tup (.cons (.str "times") (.cons (.str "gone") (.cons (.int 5) .nil)))) .nil)) .nil))) (.cons (.int 1) .nil))) (.cons (.tup (.cons (.tup (.cons (.int 1) (.cons (.tup (.cons (.tup (.cons (.str "of") (.cons (.str "gone") (.cons (.tup (.cons (.int 5) (.cons (.int 5) .nil))) .nil)))) .nil)) .nil))) (.cons (.int 1) .nil))) .nil))))) (.cons (.expr (.ext (.var 1) (.lst (.cons (.tup (.cons (.tup (.cons (.int 0) (.cons (.tup (.cons (.tup (.cons (.str "of") (.cons (.str "o") (.cons (.tup (.cons (.int 4) (.cons (.int 5) .nil))) .nil)))) .nil)) .nil))) (.cons (.int 0) .nil))) (.cons (.tup (.cons (.tup (.cons (.int 0) (.cons (.tup (.cons (.tup (.cons (.str "of") (.cons (.str "o") (.cons (.tup (.cons (.int 4) (.cons (.int 5) (.cons (.int 6) .nil)))) .nil)))) .nil)) .nil))) (.cons (.int 6) .nil))) .nil))))) (.cons (.expr (.ext (.var 1) (.lst (.cons (.tup (.cons (.tup (.cons (.int 0) (.cons (.tup (.cons (.tup (.cons (.str "of") (.cons (.str "o") (.cons (.tup (.cons (.int 4) (.cons (.int 5) (.cons (.int 6) (.cons (.int 7) (.cons (.int 8) .nil)))))) .nil)))) .nil)) .nil))) (.cons (.int 6) .nil))) (.cons (.tup (.cons (.tup (.cons (.int 0) (.cons (.tup (.cons (.tup (.cons (.str "of") (.cons (.str "s") (.cons (.tup .nil) .nil)))) .nil)) .nil))) (.cons (.int 0) .nil))) .nil))))) (.cons (.expr (.ext (.var 1) (.lst (.cons (.tup (.cons (.tup (.cons (.int 0) (.cons (.tup (.cons (.tup (.cons (.str "of") (.cons (.str "s") (.cons (.tup (.cons (.int 1) (.cons (.int 20) .nil))) .nil)))) .nil)) .nil))) (.cons (.int 21) .nil))) (.cons (.tup (.cons (.tup (.cons (.int 0) (.cons (.tup (.cons (.tup (.cons (.str "of") (.cons (.str "s") (.cons (.tup (.cons (.int 1) (.cons (.int 20) (.cons (.int 300) (.cons (.int 4000) (.cons (.int 9) .nil)))))) .nil)))) .nil)) .nil))) (.cons (.int 4021) .nil))) .nil))))) (.cons (.expr (.ext (.var 1) (.lst (.cons (.tup (.cons (.tup (.cons (.int 0) (.cons (.tup (.cons (.tup (.cons (.str "times") (.cons (.str "m") (.cons (.int 2) .nil)))) (.cons (.tup (.cons (.str "times") (.cons (.str "m") (.cons (.neg (.int 2)) .nil)))) .nil))) .nil))) (.cons (.int 0) .nil))) (.cons (.tup (.cons (.tup (.cons (.int 0) (.cons (.tup (.cons (.tup (.cons (.str "times") (.cons (.str "m") (.cons (.int 1) .nil)))) (.cons (.tup (.cons (.str "times") (.cons (.str "m") (.cons (.int 1) .nil)))) .nil))) .nil))) (.cons (.int 14) .nil))) .nil))))) (.cons (.expr (.met (.var 1) "append" (.cons (.tup (.cons (.tup (.cons (.int 3) (.cons (.tup (.cons (.tup (.cons (.str "where") (.cons (.tup (.cons (.str "given") (.cons (.str "n") .nil))) (.cons (.int 4) .nil)))) (.cons (.tup (.cons (.str "where") (.cons (.tup (.cons (.str "given") (.cons (.str "gone") .nil))) (.cons (.int 50) .nil)))) .nil))) .nil))) (.cons (.int 7) .nil))) .nil))) (.cons (.expr (.met (.var 1) "append" (.cons (.tup (.cons (.tup (.cons (.int 0) (.cons (.tup (.cons (.tup (.cons (.str "of") (.cons (.str "s") (.cons (.tup (.cons (.int 0) (.cons (.int 0) (.cons (.int 5) .nil)))) .nil)))) .nil)) .nil))) (.cons (.int 0) .nil))) .nil))) (.cons (.expr (.met (.var 1) "append" (.cons (.tup (.cons (.tup (.cons (.int 0) (.cons (.tup (.cons (.tup (.cons (.str "where") (.cons (.tup (.cons (.str "least") (.cons (.tup (.cons (.int 0) (.cons (.tup (.cons (.tup (.cons (.str "of") (.cons (.str "s") (.cons (.tup (.cons (.int 1) (.cons (.int 1) (.cons (.int 1) (.cons (.int 1) .nil))))) .nil)))) .nil)) .nil))) (.cons (.int 3) .nil)))) (.cons (.int 8) .nil)))) (.cons (.tup (.cons (.str "where") (.cons (.tup (.cons (.str "any") (.cons (.tup .nil) .nil))) (.cons (.int 9) .nil)))) .nil))) .nil))) (.cons (.int 8) .nil))) .nil))) (.cons (.ret (.sq "all" (.com [2, 3] (.tup (.cons (.nam 2) (.cons (.nam 3) .nil))) (.seq (.var 1)) (.bl true) (.and (.call "_law_is" (.cons (.call "value" (.cons (.var 0) (.cons (.var 2) .nil))) (.cons (.var 3) .nil))) (.call "_law_is" (.cons (.call "value" (.cons (.rev (.var 0)) (.cons (.var 2) .nil))) (.cons (.var 3) .nil))))))) .nil)))))))))))⟩
def d__law_by_hand : Ev.Dd := ⟨f__law_by_hand, defArgs (stAt 21), defBody (stAt 21), defScope (stAt 21)⟩
def f__law_right : Ev.Fn := ⟨"_law_right", ["_law_pairs", "_law_mixed_here", "_law_terms"], ["_law_pairs", "_law_mixed_here", "_law_terms", "_law_term_here", "_law_due", "_law_one", "_law_other", "_law_both"], (.cons (.for_ (.nam 3) (.seq (.var 2)) (.cons (.set (.nam 4) (.call "_law_sum" (.cons (.var 0) (.cons (.var 3) .nil)))) (.cons (.ifs (.or (.not (.call "_law_is" (.cons (.call "value" (.cons (.var 0) (.cons (.var 3) .nil))) (.cons (.var 4) .nil)))) (.not (.call "_law_is" (.cons (.call "value" (.cons (.var 1) (.cons (.var 3) .nil))) (.cons (.var 4) .nil))))) (.cons (.ret (.bl false)) .nil) .nil) (.cons (.ifs (.not (.call "_law_is" (.cons (.call "value" (.cons (.var 0) (.cons (.tup (.cons (.idx (.var 3) (.int 0)) (.cons (.rev (.idx (.var 3) (.int 1))) .nil))) .nil))) (.cons (.var 4) .nil)))) (.cons (.ret (.bl false)) .nil) .nil) (.cons (.ifs (.not (.call "_law_is" (.cons (.call "value" (.cons (.var 1) (.cons (.tup (.cons (.int 0) (.cons (.bin .Add (.idx (.var 3) (.int 1)) (.idx (.var 3) (.int 1))) .nil))) .nil))) (.cons (.bin .Mult (.int 2) (.bin .Sub (.var 4) (.idx (.var 3) (.int 0)))) .nil)))) (.cons (.ret (.bl false)) .nil) .nil) .nil))))) (.cons (.set (.tup (.cons (.nam 5) (.cons (.nam 6) .nil))) (.tup (.cons (.idx (.var 2) (.int 0)) (.cons (.idx (.var 2) (.int 1)) .nil)))) (.cons (.set (.nam 7) (.tup (.cons (.bin .Add (.idx (.var 5) (.int 0)) (.idx (.var 6) (.int 0))) (.cons (.bin .Add (.idx (.var 6) (.int 1)) (.idx (.var 5) (.int 1))) .nil)))) (.cons (.ret (.call "_law_is" (.cons (.call "value" (.cons (.var 0) (.cons (.var 7) .nil))) (.cons (.bin .Add (.call "value" (.cons (.var 1) (.cons (.var 5) .nil))) (.call "value" (.cons (.var 0) (.cons (.var 6) .nil)))) .nil)))) .nil))))⟩
def d__law_right : Ev.Dd := ⟨f__law_right, defArgs (stAt 22), defBody (stAt 22), defScope (stAt 22)⟩
def f_law : Ev.Fn := ⟨"law", ["_law_script"], ["_law_script", "_law_feed_here", "_law_k", "_law_kinds_here", "_law_pairs", "_law_name_here", "_law_kind_here", "_law_lack", "_law_pair", "_law_mixed_here", "_law_terms", "_law_j", "_law_at", "_law_less", "_law_anew", "_law_answer", "_law_kept", "_law_own", "_law_other"], (.cons (.set (.nam 1) (.call "_law_feed" (.cons (.var 0) .nil))) (.cons (.for_ (.nam 2) (.rng1 (.int 3)) (.cons (.set (.nam 3) (.sq "list" (.call "_law_kinds" (.cons (.var 1) (.cons (.call "_law_draw" (.cons (.var 1) (.cons (.int 11) .nil))) .nil))))) (.cons (.set (.nam 4) (.sq "tuple" (.com [5, 6] (.tup (.cons (.nam 5) (.cons (.nam 6) .nil))) (.seq (.var 3)) (.bl true) (.tup (.cons (.var 5) (.cons (.call "_law_reply" (.cons (.var 1) (.cons (.var 6) .nil))) .nil)))))) (.cons (.set (.nam 7) (.call "_law_draw" (.cons (.var 1) (.cons (.int 4) .nil)))) (.cons (.set (.nam 4) (.call "_law_mixed" (.cons (.var 1) (.cons (.com [8] (.nam 8) (.seq (.var 4)) (.or (.cmp .Eq (.var 7) (.int 0)) (.cmp .Gt (.call "_law_draw" (.cons (.var 1) (.cons (.bin .Add (.var 7) (.int 1)) .nil))) (.int 0))) (.var 8)) .nil)))) (.cons (.set (.nam 9) (.call "_law_mixed" (.cons (.var 1) (.cons (.var 4) .nil)))) (.cons (.set (.nam 10) (.com [11] (.nam 11) (.rng1 (.int 3)) (.bl true) (.call "_law_term" (.cons (.var 1) (.cons (.var 3) (.cons (.int 3) (.cons (.lst (.cons (.int 10) .nil)) .nil))))))) (.cons (.sub (.var 10) (.int 2) (.tup (.cons (.bin .Mult (.call "_law_draw" (.cons (.var 1) (.cons (.bin .Add (.bin .Pow (.int 10) (.int 6)) (.int 1)) .nil))) (.bin .Sub (.int 1) (.bin .Mult (.int 2) (.call "_law_draw" (.cons (.var 1) (.cons (.int 2) .nil)))))) (.cons (.idx (.idx (.var 10) (.int 2)) (.int 1)) .nil)))) (.cons (.set (.nam 12) (.call "_law_draw" (.cons (.var 1) (.cons (.bin .Add (.bi "len" (.cons (.var 4) .nil)) (.int 1)) .nil)))) (.cons (.set (.nam 13) (.bin .Add (.sli (.var 4) .non (.var 12)) (.sli (.var 4) (.bin .Add (.var 12) (.int 1)) .non))) (.cons (.set (.nam 14) (.sq "tuple" (.com [5, 15] (.tup (.cons (.nam 5) (.cons (.nam 15) .nil))) (.seq (.var 4)) (.bl true) (.tup (.cons (.var 5) (.cons (.call "_law_reply" (.cons (.var 1) (.cons (.idx (.sq "dict" (.var 3)) (.var 5)) .nil))) .nil)))))) (.cons (.set (.nam 16) (.bi "repr" (.cons (.tup (.cons (.var 4) (.cons (.var 9) (.cons (.var 13) (.cons (.var 10) .nil))))) .nil))) (.cons (.for_ (.tup (.cons (.nam 17) (.cons (.nam 18) .nil))) (.seq (.tup (.cons (.tup (.cons (.var 4) (.cons (.var 9) .nil))) (.cons (.tup (.cons (.var 14) (.cons (.rev (.var 14)) .nil))) (.cons (.tup (.cons (.var 13) (.cons (.rev (.var 13)) .nil))) (.cons (.tup (.cons (.rev (.var 4)) (.cons (.var 4) .nil))) .nil)))))) (.cons (.ifs (.not (.call "_law_right" (.cons (.var 17) (.cons (.var 18) (.cons (.var 10) .nil))))) (.cons (.ret (.bl false)) .nil) .nil) .nil)) (.cons (.ifs (.cmp .NotEq (.bi "repr" (.cons (.tup (.cons (.var 4) (.cons (.var 9) (.cons (.var 13) (.cons (.var 10) .nil))))) .nil)) (.var 16)) (.cons (.ret (.bl false)) .nil) .nil) .nil)))))))))))))) (.cons (.ret (.call "_law_by_hand" .nil)) .nil)))⟩
def d_law : Ev.Dd := ⟨f_law, defArgs (stAt 23), defBody (stAt 23), defScope (stAt 23)⟩
def D : List Ev.Dd := [d_value, d_is_so, d_comes_to, d_part_of, d__law_feed, d__law_draw, d__law_name, d__law_kind, d__law_reply, d__law_weight, d__law_of, d__law_plain, d__law_term, d__law_sentence, d__law_kinds, d__law_so, d__law_sum, d__law_mixed, d__law_is, d__law_by_hand, d__law_right, d_law]
theorem ok_value : d_value.Ok D (cons.map (·.1)) frees := ⟨⟨rfl, rfl, rfl, by decide +kernel, rfl, by decide +kernel, by decide +kernel⟩, by kernel_rfl, by kernel_rfl⟩
theorem b_value : d_value.Bnd := fun _ _ _ _ _ _ us hl => match us, hl with | [_, _], _ => rfl
theorem ok_is_so : d_is_so.Ok D (cons.map (·.1)) frees := ⟨⟨rfl, rfl, rfl, by decide +kernel, rfl, by decide +kernel, by decide +kernel⟩, by kernel_rfl, by kernel_rfl⟩
theorem b_is_so : d_is_so.Bnd := fun _ _ _ _ _ _ us hl => match us, hl with | [_, _], _ => rfl
theorem ok_comes_to : d_comes_to.Ok D (cons.map (·.1)) frees := ⟨⟨rfl, rfl, rfl, by decide +kernel, rfl, by decide +kernel, by decide +kernel⟩, by kernel_rfl, by kernel_rfl⟩
theorem b_comes_to : d_comes_to.Bnd := fun _ _ _ _ _ _ us hl => match us, hl with | [_, _], _ => rfl
theorem ok_part_of : d_part_of.Ok D (cons.map (·.1)) frees := ⟨⟨rfl, rfl, rfl, by decide +kernel, rfl, by decide +kernel, by decide +kernel⟩, by kernel_rfl, by kernel_rfl⟩
theorem b_part_of : d_part_of.Bnd := fun _ _ _ _ _ _ us hl => match us, hl with | [_, _], _ => rfl
theorem ok__law_feed : d__law_feed.Ok D (cons.map (·.1)) frees := ⟨⟨rfl, rfl, rfl, by decide +kernel, rfl, by decide +kernel, by decide +kernel⟩, by kernel_rfl, by kernel_rfl⟩
theorem b__law_feed : d__law_feed.Bnd := fun _ _ _ _ _ _ us hl => match us, hl with | [_], _ => rfl
theorem ok__law_draw : d__law_draw.Ok D (cons.map (·.1)) frees := ⟨⟨rfl, rfl, rfl, by decide +kernel, rfl, by decide +kernel, by decide +kernel⟩, by kernel_rfl, by kernel_rfl⟩
theorem b__law_draw : d__law_draw.Bnd := fun _ _ _ _ _ _ us hl => match us, hl with | [_, _], _ => rfl
theorem ok__law_name : d__law_name.Ok D (cons.map (·.1)) frees := ⟨⟨rfl, rfl, rfl, by decide +kernel, rfl, by decide +kernel, by decide +kernel⟩, by kernel_rfl, by kernel_rfl⟩
theorem b__law_name : d__law_name.Bnd := fun _ _ _ _ _ _ us hl => match us, hl with | [_, _], _ => rfl
theorem ok__law_kind : d__law_kind.Ok D (cons.map (·.1)) frees := ⟨⟨rfl, rfl, rfl, by decide +kernel, rfl, by decide +kernel, by decide +kernel⟩, by kernel_rfl, by kernel_rfl⟩
theorem b__law_kind : d__law_kind.Bnd := fun _ _ _ _ _ _ us hl => match us, hl with | [_], _ => rfl
theorem ok__law_reply : d__law_reply.Ok D (cons.map (·.1)) frees := ⟨⟨rfl, rfl, rfl, by decide +kernel, rfl, by decide +kernel, by decide +kernel⟩, by kernel_rfl, by kernel_rfl⟩
theorem b__law_reply : d__law_reply.Bnd := fun _ _ _ _ _ _ us hl => match us, hl with | [_, _], _ => rfl
theorem ok__law_weight : d__law_weight.Ok D (cons.map (·.1)) frees := ⟨⟨rfl, rfl, rfl, by decide +kernel, rfl, by decide +kernel, by decide +kernel⟩, by kernel_rfl, by kernel_rfl⟩
theorem b__law_weight : d__law_weight.Bnd := fun _ _ _ _ _ _ us hl => match us, hl with | [_], _ => rfl
theorem ok__law_of : d__law_of.Ok D (cons.map (·.1)) frees := ⟨⟨rfl, rfl, rfl, by decide +kernel, rfl, by decide +kernel, by decide +kernel⟩, by kernel_rfl, by kernel_rfl⟩
theorem b__law_of : d__law_of.Bnd := fun _ _ _ _ _ _ us hl => match us, hl with | [_, _, _], _ => rfl
theorem ok__law_plain : d__law_plain.Ok D (cons.map (·.1)) frees := ⟨⟨rfl, rfl, rfl, by decide +kernel, rfl, by decide +kernel, by decide +kernel⟩, by kernel_rfl, by kernel_rfl⟩
theorem b__law_plain : d__law_plain.Bnd := fun _ _ _ _ _ _ us hl => match us, hl with | [_, _, _], _ => rfl
theorem ok__law_term : d__law_term.Ok D (cons.map (·.1)) frees := ⟨⟨rfl, rfl, rfl, by decide +kernel, rfl, by decide +kernel, by decide +kernel⟩, by kernel_rfl, by kernel_rfl⟩
theorem b__law_term : d__law_term.Bnd := fun _ _ _ _ _ _ us hl => match us, hl with | [_, _, _, _], _ => rfl
theorem ok__law_sentence : d__law_sentence.Ok D (cons.map (·.1)) frees := ⟨⟨rfl, rfl, rfl, by decide +kernel, rfl, by decide +kernel, by decide +kernel⟩, by kernel_rfl, by kernel_rfl⟩
theorem b__law_sentence : d__law_sentence.Bnd := fun _ _ _ _ _ _ us hl => match us, hl with | [_, _, _, _], _ => rfl
theorem ok__law_kinds : d__law_kinds.Ok D (cons.map (·.1)) frees := ⟨⟨rfl, rfl, rfl, by decide +kernel, rfl, by decide +kernel, by decide +kernel⟩, by kernel_rfl, by kernel_rfl⟩
theorem b__law_kinds : d__law_kinds.Bnd := fun _ _ _ _ _ _ us hl => match us, hl with | [_, _], _ => rfl
theorem ok__law_so : d__law_so.Ok D (cons.map (·.1)) frees := ⟨⟨rfl, rfl, rfl, by decide +kernel, rfl, by decide +kernel, by decide +kernel⟩, by kernel_rfl, by kernel_rfl⟩
theorem b__law_so : d__law_so.Bnd := fun _ _ _ _ _ _ us hl => match us, hl with | [_, _], _ => rfl
theorem ok__law_sum : d__law_sum.Ok D (cons.map (·.1)) frees := ⟨⟨rfl, rfl, rfl, by decide +kernel, rfl, by decide +kernel, by decide +kernel⟩, by kernel_rfl, by kernel_rfl⟩
theorem b__law_sum : d__law_sum.Bnd := fun _ _ _ _ _ _ us hl => match us, hl with | [_, _], _ => rfl
theorem ok__law_mixed : d__law_mixed.Ok D (cons.map (·.1)) frees := ⟨⟨rfl, rfl, rfl, by decide +kernel, rfl, by decide +kernel, by decide +kernel⟩, by kernel_rfl, by kernel_rfl⟩
theorem b__law_mixed : d__law_mixed.Bnd := fun _ _ _ _ _ _ us hl => match us, hl with | [_, _], _ => rfl
theorem ok__law_is : d__law_is.Ok D (cons.map (·.1)) frees := ⟨⟨rfl, rfl, rfl, by decide +kernel, rfl, by decide +kernel, by decide +kernel⟩, by kernel_rfl, by kernel_rfl⟩
theorem b__law_is : d__law_is.Bnd := fun _ _ _ _ _ _ us hl => match us, hl with | [_, _], _ => rfl
theorem ok__law_by_hand : d__law_by_hand.Ok D (cons.map (·.1)) frees := ⟨⟨rfl, rfl, rfl, by decide +kernel, rfl, by decide +kernel, by decide +kernel⟩, by kernel_rfl, by kernel_rfl⟩
theorem b__law_by_hand : d__law_by_hand.Bnd := fun _ _ _ _ _ _ us hl => match us, hl with | [], _ => rfl
theorem ok__law_right : d__law_right.Ok D (cons.map (·.1)) frees := ⟨⟨rfl, rfl, rfl, by decide +kernel, rfl, by decide +kernel, by decide +kernel⟩, by kernel_rfl, by kernel_rfl⟩
theorem b__law_right : d__law_right.Bnd := fun _ _ _ _ _ _ us hl => match us, hl with | [_, _, _], _ => rfl
theorem ok_law : d_law.Ok D (cons.map (·.1)) frees := ⟨⟨rfl, rfl, rfl, by decide +kernel, rfl, by decide +kernel, by decide +kernel⟩, by kernel_rfl, by kernel_rfl⟩
theorem b_law : d_law.Bnd := fun _ _ _ _ _ _ us hl => match us, hl with | [_], _ => rfl
theorem ok_all : ∀ d ∈ D, d.Ok D (cons.map (·.1)) frees := by
  intro d hd
  simp only [D, List.mem_cons, List.not_mem_nil, or_false] at hd
  rcases hd with rfl | rfl | rfl | rfl | rfl | rfl | rfl | rfl | rfl | rfl | rfl | rfl | rfl | rfl | rfl | rfl | rfl | rfl | rfl | rfl | rfl | rfl
  · exact ok_value
  · exact ok_is_so
  · exact ok_comes_to
  · exact ok_part_of
  · exact ok__law_feed
  · exact ok__law_draw
  · exact ok__law_name
  · exact ok__law_kind
  · exact ok__law_reply
  · exact ok__law_weight
  · exact ok__law_of
  · exact ok__law_plain
  · exact ok__law_term
  · exact ok__law_sentence
  · exact ok__law_kinds
  · exact ok__law_so
  · exact ok__law_sum
  · exact ok__law_mixed
  · exact ok__law_is
  · exact ok__law_by_hand
  · exact ok__law_right
  · exact ok_law
theorem b_all : ∀ d ∈ D, d.Bnd := by
  intro d hd
  simp only [D, List.mem_cons, List.not_mem_nil, or_false] at hd
  rcases hd with rfl | rfl | rfl | rfl | rfl | rfl | rfl | rfl | rfl | rfl | rfl | rfl | rfl | rfl | rfl | rfl | rfl | rfl | rfl | rfl | rfl | rfl
  · exact b_value
  · exact b_is_so
  · exact b_comes_to
  · exact b_part_of
  · exact b__law_feed
  · exact b__law_draw
  · exact b__law_name
  · exact b__law_kind
  · exact b__law_reply
  · exact b__law_weight
  · exact b__law_of
  · exact b__law_plain
  · exact b__law_term
  · exact b__law_sentence
  · exact b__law_kinds
  · exact b__law_so
  · exact b__law_sum
  · exact b__law_mixed
  · exact b__law_is
  · exact b__law_by_hand
  · exact b__law_right
  · exact b_law
abbrev R : PySem.W.OpenRow := PySem.W.OpenLaw.row PySem.Challenge.rw_askfolds_k08_terms_worked_out
abbrev hk : PySem.W.Hook := He.hookD 4 (Ev.faOf D frees cons) (D.map Ev.Dd.h)
def ob (s : PySem.W.SharedT) : He.AlD := He.obsDG 4 (Ev.faOf D frees cons) (D.map Ev.Dd.h) (HandSHeadRun.getT s)
theorem ob_eq (s : PySem.W.SharedT) : ob s = hk.obs s.abs := He.obsDG_eq (HandSHeadRun.getT_eq s)
def loose0 : List PySem.Str := ["value", "is_so", "comes_to", "part_of", "_law_feed", "_law_draw", "_law_name", "_law_kind", "_law_reply", "_law_weight", "_law_of", "_law_plain", "_law_term", "_law_sentence", "_law_kinds", "_law_so", "_law_sum", "_law_mixed", "_law_is", "_law_by_hand", "_law_right"]
def loose : List PySem.Str := loose0
theorem run (w : World) : HandSHeadRun.RunEq R (PySem.W.view R.prog [23]) hk ob 4000 loose w := by
  intro os
  kernel_rfl
def fns : List Ev.Fn := [f_value, f_is_so, f_comes_to, f_part_of, f__law_feed, f__law_draw, f__law_name, f__law_kind, f__law_reply, f__law_weight, f__law_of, f__law_plain, f__law_term, f__law_sentence, f__law_kinds, f__law_so, f__law_sum, f__law_mixed, f__law_is, f__law_by_hand, f__law_right, f_law]
theorem fns_eq : D.map Ev.Dd.fn = fns := rfl
end Hk08
open PySem PySem.W PySem.Calls PyProof.Rows
theorem Hk08.end_ {gas n : Nat} (hr : L2.Room n callerA) (holds : ∀ scr : List Int, scr.length ≤ 63 → (∀ i ∈ scr, Builtin.Int.intBits i ≤ 1048576) → ∃ S', Ev.sem Hk08.fns (Ev.gloOf Hk08.cons) scr gas n "law" [.scr] [] = .ok (.bl true) S') : PySem.Challenge.rw_askfolds_k08_terms_worked_out.Holds := by
  w_on; o_law
  refine HandSHeadRun.head_any (r := OpenLaw.row PySem.Challenge.rw_askfolds_k08_terms_worked_out) (q := view (OpenLaw.row PySem.Challenge.rw_askfolds_k08_terms_worked_out).prog [23]) (H := Hk08.hk) (ob := Hk08.ob) (M := 4000) (loose := Hk08.loose) (d := HandSHeadRun.topDef (OpenLaw.row PySem.Challenge.rw_askfolds_k08_terms_worked_out).prog 23) (kwd := []) Hk08.ob_eq
    (by kernel_rfl) (fun s => by kernel_rfl) Hk08.run (by kernel_rfl) (by kernel_rfl) (by kernel_rfl) (by rfl) (by first | assumption | decide +kernel) (by decide +kernel) ⟨rfl, rfl, rfl, rfl, rfl, by decide +kernel⟩ ?hw ?hc
  case hw => w_witness2
  case hc => exact Ev.walk_all (law := Hk08.d_law) (x := "_law_script") (n := 63) (k := n) (gas := gas) rfl (by decide) (by kernel_rfl) hr Hk08.ok_all Hk08.b_all (by decide +kernel) (by simp [Hk08.D]) rfl (by kernel_rfl) holds

end

section
set_option maxHeartbeats 1000000
set_option exponentiation.threshold 5000
namespace Lk08
open Ev G
open PySem (Str PyData)
abbrev D := Hk08.fns
theorem gen : Gen D := ⟨⟨Hk08.f__law_draw, by kernel_rfl, rfl, rfl, rfl⟩, ⟨Hk08.f__law_name, by kernel_rfl, rfl, rfl, rfl⟩, ⟨Hk08.f__law_kind, by kernel_rfl, rfl, rfl, rfl⟩, ⟨Hk08.f__law_reply, by kernel_rfl, rfl, rfl, rfl⟩, ⟨Hk08.f__law_weight, by kernel_rfl, rfl, rfl, rfl⟩, ⟨Hk08.f__law_of, by kernel_rfl, rfl, rfl, rfl⟩, ⟨Hk08.f__law_plain, by kernel_rfl, rfl, rfl, rfl⟩, ⟨Hk08.f__law_term, by kernel_rfl, rfl, rfl, rfl⟩, ⟨Hk08.f__law_sentence, by kernel_rfl, rfl, rfl, rfl⟩⟩
theorem views : Views D := ⟨⟨Hk08.f_is_so, by kernel_rfl, rfl, rfl, rfl⟩, ⟨Hk08.f_comes_to, by kernel_rfl, rfl, rfl, rfl⟩, ⟨Hk08.f_part_of, by kernel_rfl, rfl, rfl, rfl⟩⟩
theorem lso : Lso D := ⟨⟨Hk08.f__law_so, by kernel_rfl, rfl, rfl, rfl⟩, ⟨Hk08.f__law_sum, by kernel_rfl, rfl, rfl, rfl⟩⟩
theorem h_value : Has D "value" bValue 2 2 := ⟨Hk08.f_value, by kernel_rfl, rfl, rfl, rfl⟩
theorem h_kinds : Has D "_law_kinds" bKinds 2 7 := ⟨Hk08.f__law_kinds, by kernel_rfl, rfl, rfl, rfl⟩
theorem h_mixed : Has D "_law_mixed" bMixed 2 4 := ⟨Hk08.f__law_mixed, by kernel_rfl, rfl, rfl, rfl⟩
theorem h_feed : Has D "_law_feed" bFeed 1 1 := ⟨Hk08.f__law_feed, by kernel_rfl, rfl, rfl, rfl⟩
theorem h_is : Has D "_law_is" Hk08.f__law_is.body 2 2 := ⟨Hk08.f__law_is, by kernel_rfl, rfl, rfl, rfl⟩
theorem h_right : Has D "_law_right" Hk08.f__law_right.body 3 8 := ⟨Hk08.f__law_right, by kernel_rfl, rfl, rfl, rfl⟩
theorem h_hand : Has D "_law_by_hand" Hk08.f__law_by_hand.body 0 4 := ⟨Hk08.f__law_by_hand, by kernel_rfl, rfl, rfl, rfl⟩
section
variable {glo : Str → Option Val} {scr : List Int} {gas m : Nat} {T : Str → Nat} {S : Sto}
theorem extS {S0 S : Sto} {b : Nat} {xs ys : List Val} (hb : S[b]? = some (.lst xs)) (fr : Fr F0 S0 S) (h0 : S0.length ≤ b) : (S.set b (.lst (xs ++ ys)))[b]? = some (.lst (xs ++ ys)) ∧ Fr F0 S0 (S.set b (.lst (xs ++ ys))) :=
  ⟨List.getElem?_set_self (List.getElem?_eq_some_iff.mp hb).1, frNew fr h0⟩
theorem ext1 {C : Ctx} {S0 S : Sto} {b : Nat} {xs ys : List Val} {Q : Val → Sto → Prop} (hb : S[b]? = some (.lst xs)) (fr : Fr F0 S0 S) (h0 : S0.length ≤ b) (hl : xs.length + ys.length ≤ 1000) (q : ∀ S', S'[b]? = some (.lst (xs ++ ys)) → Fr F0 S0 S' → Q .non S') : V (if "list" = "list" ∧ true = true then pExt (.loc b) ys else bad) S Q := by
  obtain ⟨h1, h2⟩ := extS (ys := ys) hb fr h0
  exact R.vExt hb (Nat.le_trans hl (by decide)) (q _ h1 h2)
theorem app1 {C : Ctx} {S0 S : Sto} {b : Nat} {xs : List Val} {y : Val} {Q : Val → Sto → Prop} (hb : S[b]? = some (.lst xs)) (fr : Fr F0 S0 S) (h0 : S0.length ≤ b) (hl : xs.length + 1 ≤ 1000) (q : ∀ S', S'[b]? = some (.lst (xs ++ [y])) → Fr F0 S0 S' → Q .non S') : V (pMet "list" "append" (.loc b) [y]) S Q := by
  obtain ⟨h1, h2⟩ := extS (ys := [y]) hb fr h0
  exact R.vApp hb (Nat.lt_of_lt_of_le (show xs.length < 1000 by omega) (by decide)) (q _ h1 h2)
mutual
def okB (T : Str → Nat) : Sen → Bool
  | .given _ => true
  | .is x k => decide (T x = 1) && decide (-1000000 ≤ k) && decide (k ≤ 1000000)
  | .has x k => decide (T x = 2) && decide (-1000000 ≤ k) && decide (k ≤ 1000000)
  | .least _ ps _ => okBp T ps && decide (ps.vs.length < 1000)
  | .not s => okB T s
  | .all ss => okBs T ss && decide (ss.vs.length < 1000)
  | .any ss => okBs T ss && decide (ss.vs.length < 1000)
def okBs (T : Str → Nat) : Sens → Bool
  | .nil => true
  | .cons s ss => okB T s && okBs T ss
def okB1 (T : Str → Nat) : Prt → Bool
  | .whr s w => okB T s && decide (-1000000 ≤ w) && decide (w ≤ 1000000)
  | .times x w => decide (T x = 3) && decide (-1000000 ≤ w) && decide (w ≤ 1000000)
  | .of x ws => (decide (T x = 1) || decide (T x = 2)) && decide (ws.length ≤ 64) && ws.all fun w => decide (-1000000 ≤ w) && decide (w ≤ 1000000)
def okBp (T : Str → Nat) : Prts → Bool
  | .nil => true
  | .cons p ps => okB1 T p && okBp T ps
end
theorem lt1000 {n : Nat} (h : n < 1000) : n < PySem.sizeLine := Nat.lt_of_lt_of_le h (by decide)
mutual
theorem okB_ok : ∀ s : Sen, okB T s = true → s.Ok T
  | .given _, _ => trivial
  | .is x k, h => by simp only [okB, Bool.and_eq_true, decide_eq_true_eq] at h; exact ⟨h.1.1, h.1.2, h.2⟩
  | .has x k, h => by simp only [okB, Bool.and_eq_true, decide_eq_true_eq] at h; exact ⟨h.1.1, h.1.2, h.2⟩
  | .least _ ps _, h => by simp only [okB, Bool.and_eq_true, decide_eq_true_eq] at h; exact ⟨okBp_ok ps h.1, lt1000 h.2⟩
  | .not s, h => okB_ok s h
  | .all ss, h => by simp only [okB, Bool.and_eq_true, decide_eq_true_eq] at h; exact ⟨okBs_ok ss h.1, lt1000 h.2⟩
  | .any ss, h => by simp only [okB, Bool.and_eq_true, decide_eq_true_eq] at h; exact ⟨okBs_ok ss h.1, lt1000 h.2⟩
theorem okBs_ok : ∀ s : Sens, okBs T s = true → s.Ok T
  | .nil, _ => trivial
  | .cons s ss, h => by simp only [okBs, Bool.and_eq_true] at h; exact ⟨okB_ok s h.1, okBs_ok ss h.2⟩
theorem okB1_ok : ∀ s : Prt, okB1 T s = true → s.Ok T
  | .whr s w, h => by simp only [okB1, Bool.and_eq_true, decide_eq_true_eq] at h; exact ⟨okB_ok s h.1.1, h.1.2, h.2⟩
  | .times x w, h => by simp only [okB1, Bool.and_eq_true, decide_eq_true_eq] at h; exact ⟨h.1.1, h.1.2, h.2⟩
  | .of x ws, h => by simp only [okB1, Bool.and_eq_true, Bool.or_eq_true, decide_eq_true_eq, List.all_eq_true] at h; exact h
theorem okBp_ok : ∀ s : Prts, okBp T s = true → s.Ok T
  | .nil, _ => trivial
  | .cons s ss, h => by simp only [okBp, Bool.and_eq_true] at h; exact ⟨okB1_ok s h.1, okBp_ok ss h.2⟩
end
end
/-- pairs of the kinds' names -/
def InK (ks : Ks) (ps : Ps) : Prop := ∀ p ∈ ps, ∃ kd, (p.1, kd) ∈ ks ∧ Ans kd p.2
section
variable {ks : Ks} {ps qs : Ps}
theorem InK.sub (h : InK ks ps) (hs : ∀ p ∈ qs, p ∈ ps) : InK ks qs := fun p hp => h p (hs p hp)
theorem InK.ok (h : InK ks ps) (ok : KsOk ks) (nd : (ps.map (·.1)).Nodup) (hl : ps.length ≤ 12) : PsOk (T ks) ps :=
  PsOk.of nd (fun p hp => by
    obtain ⟨kd, hk, ha⟩ := h p hp
    rw [T_of ok hk]
    exact ha.s (ok.kd _ hk)) (by omega)
theorem InK.pf (h : InK ks ps) (ok : KsOk ks) (hl : ps.length ≤ 12) : PF 3 60000 (.tup (pv ps)) := by
  have := PFs.of_all (k := 2) (w := 4600) (vs := pv ps) fun v hv => by
    obtain ⟨p, hp, rfl⟩ := List.mem_map.mp hv
    obtain ⟨kd, hk, ha⟩ := h p hp
    exact (PF.tup (PFs.cons ((PF.s8 (ok.nm _ hk).sok).mono (k' := 1) (by decide) (Nat.le_refl _)) (PFs.cons (ha.s (ok.kd _ hk)).pf PFs.nil))).mono (by decide) (by decide)
  refine (PF.tup this).mono (by decide) ?_
  unfold pv
  rw [List.length_map]
  omega
theorem frDrop {f : Nat} {S S2 : Sto} {o : Ob} (h : Fr (FR f S.length) (S ++ [o]) S2) : Fr (At f) S S2 := by
  refine ⟨by have := h.len; simp at this; omega, fun i hi n => ?_⟩
  rw [h.keep i (by simp; omega) (fun z => by rcases z with z | z; exact n z; omega), List.getElem?_append_left hi]
theorem pv_cut1 {i : Int} (h : 0 ≤ i) : cut (pv ps) none (some i) = pv (ps.take i.toNat) := by
  unfold pv; rw [cut_take h, List.map_take]
theorem pv_cut2 {i : Int} (h : 0 ≤ i) : cut (pv ps) (some i) none = pv (ps.drop i.toNat) := by
  unfold pv; rw [cut_drop h, List.map_drop]
theorem pv_app : pv ps ++ pv qs = pv (ps ++ qs) := by unfold pv; simp
theorem pv_rev : (pv ps).reverse = pv ps.reverse := by unfold pv; simp
theorem pv_len : (pv ps).length = ps.length := by unfold pv; simp
end
section
variable {glo : Str → Option Val} {scr : List Int} {gas m n : Nat} {T : Str → Nat} {S : Sto}
theorem is_run (hn : 1 ≤ n) {a b : Int} : V ((K D glo scr gas n).call "_law_is" [.int a, .int b]) S fun v S' => v = .bl (decide (a = b)) ∧ S' = S := by
  obtain ⟨k, rfl⟩ : ∃ k, n = k + 1 := ⟨n - 1, by omega⟩
  refine call_at h_is rfl ?_
  have e1 : (!decide (Val.int a = Val.bl true)) = true := by rw [decide_eq_false (fun h => nomatch h)]; rfl
  have e2 : (!decide (Val.int a = Val.bl false)) = true := by rw [decide_eq_false (fun h => nomatch h)]; rfl
  (repeat (first | refine St.go ?_ | refine R.eVar rfl ?_ | refine ⟨_, rfl, ?_⟩ | refine R.sAug rfl ?_ | refine R.vSliT rfl rfl ?_ | refine R.vIsiNo rfl ?_ | refine R.vIsiBl rfl ?_ | refine R.vIsiIn rfl ?_ | refine R.vIsiSt rfl ?_ | refine R.vIsiTu rfl ?_ | refine R.ssCons ?_ | refine R.ssNil ?_ | refine R.w_iteT ?_ | refine R.w_iteF ?_))
  first | rw [e1] | skip
  (repeat (first | refine St.go ?_ | refine R.eVar rfl ?_ | refine ⟨_, rfl, ?_⟩ | refine R.sAug rfl ?_ | refine R.vSliT rfl rfl ?_ | refine R.vIsiNo rfl ?_ | refine R.vIsiBl rfl ?_ | refine R.vIsiIn rfl ?_ | refine R.vIsiSt rfl ?_ | refine R.vIsiTu rfl ?_ | refine R.ssCons ?_ | refine R.ssNil ?_ | refine R.w_iteT ?_ | refine R.w_iteF ?_))
  first | rw [e2] | skip
  (repeat (first | refine St.go ?_ | refine R.eVar rfl ?_ | refine ⟨_, rfl, ?_⟩ | refine R.sAug rfl ?_ | refine R.vSliT rfl rfl ?_ | refine R.vIsiNo rfl ?_ | refine R.vIsiBl rfl ?_ | refine R.vIsiIn rfl ?_ | refine R.vIsiSt rfl ?_ | refine R.vIsiTu rfl ?_ | refine R.ssCons ?_ | refine R.ssNil ?_ | refine R.w_iteT ?_ | refine R.w_iteF ?_))
  exact ⟨rfl, rfl⟩
abbrev Tms := List (Int × List Prt)
def tvs (ts : Tms) : List Val := ts.map fun p => tv p.1 p.2
structure TOk (T : Str → Nat) (m : Nat) (p : Int × List Prt) : Prop where
  ok : ∀ q ∈ p.2, q.Ok T ∧ q.need ≤ m
  len : p.2.length ≤ 200000
theorem isT (hn : 1 ≤ n) {a b : Int} (e : a = b) {α : Type} {Q : Val → Sto → Prop} (q : Q (.bl true) S) : V ((K D glo scr gas n).call "_law_is" [.int a, .int b]) S Q := by
  refine R.w_mono (is_run hn) ?_
  rintro v S' ⟨rfl, rfl⟩
  rw [decide_eq_true e]
  exact q
theorem small12 {i : Int} (h1 : -1000000000000000 ≤ i) (h2 : i ≤ 1000000000000000) : i.natAbs < 2 ^ 4000 := by
  have h : i.natAbs < 2 ^ 64 := by
    have : (2 : Nat) ^ 64 = 18446744073709551616 := by decide
    omega
  exact Nat.lt_of_lt_of_le h (Nat.pow_le_pow_right (by decide) (by decide))
theorem right_run {ps qs : Ps} {ts : Tms} {t : Nat} (hp : PsOk T ps) (hq : PsOk T qs) (he : look ps = look qs) (ht : S[t]? = some (.lst (tvs ts))) (ok : ∀ p ∈ ts, TOk T m p) (hl : ts.length = 3) :
    V ((K D glo scr gas (m + 3)).call "_law_right" [.tup (pv ps), .tup (pv qs), .loc t]) S fun v S' => v = .bl true ∧ Fr F0 S S' := by
  have eq0 : ∀ L, tsum qs L = tsum ps L := fun L => by unfold tsum; rw [he]
  refine call_at h_right rfl ?_
  (repeat (first | refine St.go ?_ | refine R.eVar rfl ?_ | refine ⟨_, rfl, ?_⟩ | refine R.sAug rfl ?_ | refine R.vSliT rfl rfl ?_ | refine R.vIsiNo rfl ?_ | refine R.vIsiBl rfl ?_ | refine R.vIsiIn rfl ?_ | refine R.vIsiSt rfl ?_ | refine R.vIsiTu rfl ?_ | refine R.ssCons ?_ | refine R.ssNil ?_ | refine R.w_iteT ?_ | refine R.w_iteF ?_))
  refine R.vWalkL ht ?_
  refine R.w_for (w := ⟨tvs ts, [(t, tvs ts)]⟩) (I := fun k ρ S' => Fr F0 S S' ∧ ∃ o3 o4, ρ = [some (.tup (pv ps)), some (.tup (pv qs)), some (.loc t), o3, o4, none, none, none]) ?_ ?_ ⟨Fr.refl, _, _, rfl⟩
  · rintro k x ρ S1 hk ⟨fr, o3, o4, rfl⟩
    have hk : (tvs ts)[k]? = some x := hk
    unfold tvs at hk
    rw [List.getElem?_map] at hk
    cases e3 : ts[k]? with
    | none => rw [e3] at hk; cases hk
    | some p =>
      rw [e3] at hk
      cases hk
      obtain ⟨b, L⟩ := p
      obtain ⟨tok, tl⟩ := ok (b, L) (List.mem_of_getElem? e3)
      dsimp only at tok tl
      refine ⟨fun q hq => by simp only [List.mem_singleton] at hq; subst hq; exact fr.get ht id, _, rfl, ?_⟩
      (repeat (first | refine St.go ?_ | refine R.eVar rfl ?_ | refine ⟨_, rfl, ?_⟩ | refine R.sAug rfl ?_ | refine R.vSliT rfl rfl ?_ | refine R.vIsiNo rfl ?_ | refine R.vIsiBl rfl ?_ | refine R.vIsiIn rfl ?_ | refine R.vIsiSt rfl ?_ | refine R.vIsiTu rfl ?_ | refine R.ssCons ?_ | refine R.ssNil ?_ | refine R.w_iteT ?_ | refine R.w_iteF ?_))
      refine R.w_mono (lsumL_run (m := m + 1) lso hp (b := b) (L := L) fun p hp => ⟨(tok p hp).1, by have := (tok p hp).2; omega⟩) ?_
      rintro v S2 ⟨rfl, fr2⟩
      (repeat (first | refine St.go ?_ | refine R.eVar rfl ?_ | refine ⟨_, rfl, ?_⟩ | refine R.sAug rfl ?_ | refine R.vSliT rfl rfl ?_ | refine R.vIsiNo rfl ?_ | refine R.vIsiBl rfl ?_ | refine R.vIsiIn rfl ?_ | refine R.vIsiSt rfl ?_ | refine R.vIsiTu rfl ?_ | refine R.ssCons ?_ | refine R.ssNil ?_ | refine R.w_iteT ?_ | refine R.w_iteF ?_))
      refine R.w_mono (value_run views h_value hp (b := b) (L := L) tok (by omega)) ?_
      rintro v S3 ⟨rfl, fr3⟩
      (repeat (first | refine St.go ?_ | refine R.eVar rfl ?_ | refine ⟨_, rfl, ?_⟩ | refine R.sAug rfl ?_ | refine R.vSliT rfl rfl ?_ | refine R.vIsiNo rfl ?_ | refine R.vIsiBl rfl ?_ | refine R.vIsiIn rfl ?_ | refine R.vIsiSt rfl ?_ | refine R.vIsiTu rfl ?_ | refine R.ssCons ?_ | refine R.ssNil ?_ | refine R.w_iteT ?_ | refine R.w_iteF ?_))
      refine isT (α := Nat) (by omega) rfl ?_
      (repeat (first | refine St.go ?_ | refine R.eVar rfl ?_ | refine ⟨_, rfl, ?_⟩ | refine R.sAug rfl ?_ | refine R.vSliT rfl rfl ?_ | refine R.vIsiNo rfl ?_ | refine R.vIsiBl rfl ?_ | refine R.vIsiIn rfl ?_ | refine R.vIsiSt rfl ?_ | refine R.vIsiTu rfl ?_ | refine R.ssCons ?_ | refine R.ssNil ?_ | refine R.w_iteT ?_ | refine R.w_iteF ?_))
      refine R.w_mono (value_run views h_value hq (b := b) (L := L) tok (by omega)) ?_
      rintro v S4 ⟨rfl, fr4⟩
      rw [eq0]
      (repeat (first | refine St.go ?_ | refine R.eVar rfl ?_ | refine ⟨_, rfl, ?_⟩ | refine R.sAug rfl ?_ | refine R.vSliT rfl rfl ?_ | refine R.vIsiNo rfl ?_ | refine R.vIsiBl rfl ?_ | refine R.vIsiIn rfl ?_ | refine R.vIsiSt rfl ?_ | refine R.vIsiTu rfl ?_ | refine R.ssCons ?_ | refine R.ssNil ?_ | refine R.w_iteT ?_ | refine R.w_iteF ?_))
      refine isT (α := Nat) (by omega) rfl ?_
      (repeat (first | refine St.go ?_ | refine R.eVar rfl ?_ | refine ⟨_, rfl, ?_⟩ | refine R.sAug rfl ?_ | refine R.vSliT rfl rfl ?_ | refine R.vIsiNo rfl ?_ | refine R.vIsiBl rfl ?_ | refine R.vIsiIn rfl ?_ | refine R.vIsiSt rfl ?_ | refine R.vIsiTu rfl ?_ | refine R.ssCons ?_ | refine R.ssNil ?_ | refine R.w_iteT ?_ | refine R.w_iteF ?_))
      refine R.vIdxT rfl ?_
      (repeat (first | refine St.go ?_ | refine R.eVar rfl ?_ | refine ⟨_, rfl, ?_⟩ | refine R.sAug rfl ?_ | refine R.vSliT rfl rfl ?_ | refine R.vIsiNo rfl ?_ | refine R.vIsiBl rfl ?_ | refine R.vIsiIn rfl ?_ | refine R.vIsiSt rfl ?_ | refine R.vIsiTu rfl ?_ | refine R.ssCons ?_ | refine R.ssNil ?_ | refine R.w_iteT ?_ | refine R.w_iteF ?_))
      refine R.vIdxT rfl ?_
      (repeat (first | refine St.go ?_ | refine R.eVar rfl ?_ | refine ⟨_, rfl, ?_⟩ | refine R.sAug rfl ?_ | refine R.vSliT rfl rfl ?_ | refine R.vIsiNo rfl ?_ | refine R.vIsiBl rfl ?_ | refine R.vIsiIn rfl ?_ | refine R.vIsiSt rfl ?_ | refine R.vIsiTu rfl ?_ | refine R.ssCons ?_ | refine R.ssNil ?_ | refine R.w_iteT ?_ | refine R.w_iteF ?_))
      rw [← List.map_reverse]
      refine R.w_mono (value_run views h_value hp (b := b) (L := L.reverse) (fun p hp => tok p (List.mem_reverse.mp hp)) (by rw [List.length_reverse]; omega)) ?_
      rintro v S5 ⟨rfl, fr5⟩
      rw [tsum_rev]
      (repeat (first | refine St.go ?_ | refine R.eVar rfl ?_ | refine ⟨_, rfl, ?_⟩ | refine R.sAug rfl ?_ | refine R.vSliT rfl rfl ?_ | refine R.vIsiNo rfl ?_ | refine R.vIsiBl rfl ?_ | refine R.vIsiIn rfl ?_ | refine R.vIsiSt rfl ?_ | refine R.vIsiTu rfl ?_ | refine R.ssCons ?_ | refine R.ssNil ?_ | refine R.w_iteT ?_ | refine R.w_iteF ?_))
      refine isT (α := Nat) (by omega) rfl ?_
      (repeat (first | refine St.go ?_ | refine R.eVar rfl ?_ | refine ⟨_, rfl, ?_⟩ | refine R.sAug rfl ?_ | refine R.vSliT rfl rfl ?_ | refine R.vIsiNo rfl ?_ | refine R.vIsiBl rfl ?_ | refine R.vIsiIn rfl ?_ | refine R.vIsiSt rfl ?_ | refine R.vIsiTu rfl ?_ | refine R.ssCons ?_ | refine R.ssNil ?_ | refine R.w_iteT ?_ | refine R.w_iteF ?_))
      refine R.vIdxT rfl ?_
      (repeat (first | refine St.go ?_ | refine R.eVar rfl ?_ | refine ⟨_, rfl, ?_⟩ | refine R.sAug rfl ?_ | refine R.vSliT rfl rfl ?_ | refine R.vIsiNo rfl ?_ | refine R.vIsiBl rfl ?_ | refine R.vIsiIn rfl ?_ | refine R.vIsiSt rfl ?_ | refine R.vIsiTu rfl ?_ | refine R.ssCons ?_ | refine R.ssNil ?_ | refine R.w_iteT ?_ | refine R.w_iteF ?_))
      refine R.vIdxT rfl ?_
      (repeat (first | refine St.go ?_ | refine R.eVar rfl ?_ | refine ⟨_, rfl, ?_⟩ | refine R.sAug rfl ?_ | refine R.vSliT rfl rfl ?_ | refine R.vIsiNo rfl ?_ | refine R.vIsiBl rfl ?_ | refine R.vIsiIn rfl ?_ | refine R.vIsiSt rfl ?_ | refine R.vIsiTu rfl ?_ | refine R.ssCons ?_ | refine R.ssNil ?_ | refine R.w_iteT ?_ | refine R.w_iteF ?_))
      refine R.vAddT (Nat.le_trans (show _ ≤ 400000 by simp only [List.length_map]; omega) (by decide)) ?_
      dsimp only
      rw [← List.map_append]
      (repeat (first | refine St.go ?_ | refine R.eVar rfl ?_ | refine ⟨_, rfl, ?_⟩ | refine R.sAug rfl ?_ | refine R.vSliT rfl rfl ?_ | refine R.vIsiNo rfl ?_ | refine R.vIsiBl rfl ?_ | refine R.vIsiIn rfl ?_ | refine R.vIsiSt rfl ?_ | refine R.vIsiTu rfl ?_ | refine R.ssCons ?_ | refine R.ssNil ?_ | refine R.w_iteT ?_ | refine R.w_iteF ?_))
      refine R.w_mono (value_run views h_value hq (b := 0) (L := L ++ L) (fun p hp => tok p (by rcases List.mem_append.mp hp with h | h <;> exact h)) (by rw [List.length_append]; omega)) ?_
      rintro v S6 ⟨rfl, fr6⟩
      rw [eq0, tsum_app]
      (repeat (first | refine St.go ?_ | refine R.eVar rfl ?_ | refine ⟨_, rfl, ?_⟩ | refine R.sAug rfl ?_ | refine R.vSliT rfl rfl ?_ | refine R.vIsiNo rfl ?_ | refine R.vIsiBl rfl ?_ | refine R.vIsiIn rfl ?_ | refine R.vIsiSt rfl ?_ | refine R.vIsiTu rfl ?_ | refine R.ssCons ?_ | refine R.ssNil ?_ | refine R.w_iteT ?_ | refine R.w_iteF ?_))
      refine R.vIdxT rfl ?_
      (repeat (first | refine St.go ?_ | refine R.eVar rfl ?_ | refine ⟨_, rfl, ?_⟩ | refine R.sAug rfl ?_ | refine R.vSliT rfl rfl ?_ | refine R.vIsiNo rfl ?_ | refine R.vIsiBl rfl ?_ | refine R.vIsiIn rfl ?_ | refine R.vIsiSt rfl ?_ | refine R.vIsiTu rfl ?_ | refine R.ssCons ?_ | refine R.ssNil ?_ | refine R.w_iteT ?_ | refine R.w_iteF ?_))
      have hbd := tsum_bound hp.ok (L := L) (fun p hp => (tok p hp).1) (by omega)
      have e5 : b + tsum ps L - (b, L).1 = tsum ps L := by show b + tsum ps L - b = _; omega
      rw [e5]
      refine R.vMul (mulOk_of (by decide) (small12 hbd.1 hbd.2)) ?_
      (repeat (first | refine St.go ?_ | refine R.eVar rfl ?_ | refine ⟨_, rfl, ?_⟩ | refine R.sAug rfl ?_ | refine R.vSliT rfl rfl ?_ | refine R.vIsiNo rfl ?_ | refine R.vIsiBl rfl ?_ | refine R.vIsiIn rfl ?_ | refine R.vIsiSt rfl ?_ | refine R.vIsiTu rfl ?_ | refine R.ssCons ?_ | refine R.ssNil ?_ | refine R.w_iteT ?_ | refine R.w_iteF ?_))
      refine isT (α := Nat) (by omega) (by omega) ?_
      (repeat (first | refine St.go ?_ | refine R.eVar rfl ?_ | refine ⟨_, rfl, ?_⟩ | refine R.sAug rfl ?_ | refine R.vSliT rfl rfl ?_ | refine R.vIsiNo rfl ?_ | refine R.vIsiBl rfl ?_ | refine R.vIsiIn rfl ?_ | refine R.vIsiSt rfl ?_ | refine R.vIsiTu rfl ?_ | refine R.ssCons ?_ | refine R.ssNil ?_ | refine R.w_iteT ?_ | refine R.w_iteF ?_))
      exact ⟨fr.trans (fr2.trans (fr3.trans (fr4.trans (fr5.trans fr6)))), _, _, rfl⟩
  · rintro ρ S1 ⟨fr, o3, o4, rfl⟩
    refine ⟨fun q hq => by simp only [List.mem_singleton] at hq; subst hq; exact fr.get ht id, ?_⟩
    obtain ⟨⟨b0, L0⟩, ⟨b1, L1⟩, p2, rfl⟩ : ∃ a b c, ts = [a, b, c] := by
      match ts, hl with
      | [a, b, c], _ => exact ⟨a, b, c, rfl⟩
    have t0 := ok (b0, L0) (by simp)
    have t1 := ok (b1, L1) (by simp)
    have ht1 := fr.get ht id
    (repeat (first | refine St.go ?_ | refine R.eVar rfl ?_ | refine ⟨_, rfl, ?_⟩ | refine R.sAug rfl ?_ | refine R.vSliT rfl rfl ?_ | refine R.vIsiNo rfl ?_ | refine R.vIsiBl rfl ?_ | refine R.vIsiIn rfl ?_ | refine R.vIsiSt rfl ?_ | refine R.vIsiTu rfl ?_ | refine R.ssCons ?_ | refine R.ssNil ?_ | refine R.w_iteT ?_ | refine R.w_iteF ?_))
    refine R.vIdxL ht1 rfl ?_
    (repeat (first | refine St.go ?_ | refine R.eVar rfl ?_ | refine ⟨_, rfl, ?_⟩ | refine R.sAug rfl ?_ | refine R.vSliT rfl rfl ?_ | refine R.vIsiNo rfl ?_ | refine R.vIsiBl rfl ?_ | refine R.vIsiIn rfl ?_ | refine R.vIsiSt rfl ?_ | refine R.vIsiTu rfl ?_ | refine R.ssCons ?_ | refine R.ssNil ?_ | refine R.w_iteT ?_ | refine R.w_iteF ?_))
    refine R.vIdxL ht1 rfl ?_
    (repeat (first | refine St.go ?_ | refine R.eVar rfl ?_ | refine ⟨_, rfl, ?_⟩ | refine R.sAug rfl ?_ | refine R.vSliT rfl rfl ?_ | refine R.vIsiNo rfl ?_ | refine R.vIsiBl rfl ?_ | refine R.vIsiIn rfl ?_ | refine R.vIsiSt rfl ?_ | refine R.vIsiTu rfl ?_ | refine R.ssCons ?_ | refine R.ssNil ?_ | refine R.w_iteT ?_ | refine R.w_iteF ?_))
    refine R.vIdxT rfl ?_
    (repeat (first | refine St.go ?_ | refine R.eVar rfl ?_ | refine ⟨_, rfl, ?_⟩ | refine R.sAug rfl ?_ | refine R.vSliT rfl rfl ?_ | refine R.vIsiNo rfl ?_ | refine R.vIsiBl rfl ?_ | refine R.vIsiIn rfl ?_ | refine R.vIsiSt rfl ?_ | refine R.vIsiTu rfl ?_ | refine R.ssCons ?_ | refine R.ssNil ?_ | refine R.w_iteT ?_ | refine R.w_iteF ?_))
    refine R.vIdxT rfl ?_
    (repeat (first | refine St.go ?_ | refine R.eVar rfl ?_ | refine ⟨_, rfl, ?_⟩ | refine R.sAug rfl ?_ | refine R.vSliT rfl rfl ?_ | refine R.vIsiNo rfl ?_ | refine R.vIsiBl rfl ?_ | refine R.vIsiIn rfl ?_ | refine R.vIsiSt rfl ?_ | refine R.vIsiTu rfl ?_ | refine R.ssCons ?_ | refine R.ssNil ?_ | refine R.w_iteT ?_ | refine R.w_iteF ?_))
    refine R.vIdxT rfl ?_
    (repeat (first | refine St.go ?_ | refine R.eVar rfl ?_ | refine ⟨_, rfl, ?_⟩ | refine R.sAug rfl ?_ | refine R.vSliT rfl rfl ?_ | refine R.vIsiNo rfl ?_ | refine R.vIsiBl rfl ?_ | refine R.vIsiIn rfl ?_ | refine R.vIsiSt rfl ?_ | refine R.vIsiTu rfl ?_ | refine R.ssCons ?_ | refine R.ssNil ?_ | refine R.w_iteT ?_ | refine R.w_iteF ?_))
    refine R.vIdxT rfl ?_
    have l0 := t0.len
    have l1 := t1.len
    dsimp only at l0 l1
    refine R.vAddT (Nat.le_trans (show _ ≤ 400000 by simp only [List.length_map]; omega) (by decide)) ?_
    dsimp only
    rw [← List.map_append]
    (repeat (first | refine St.go ?_ | refine R.eVar rfl ?_ | refine ⟨_, rfl, ?_⟩ | refine R.sAug rfl ?_ | refine R.vSliT rfl rfl ?_ | refine R.vIsiNo rfl ?_ | refine R.vIsiBl rfl ?_ | refine R.vIsiIn rfl ?_ | refine R.vIsiSt rfl ?_ | refine R.vIsiTu rfl ?_ | refine R.ssCons ?_ | refine R.ssNil ?_ | refine R.w_iteT ?_ | refine R.w_iteF ?_))
    refine R.w_mono (value_run views h_value hp (b := b0 + b1) (L := L1 ++ L0) (fun p hp => by rcases List.mem_append.mp hp with h | h; exact t1.ok p h; exact t0.ok p h) (by rw [List.length_append]; omega)) ?_
    rintro v S6 ⟨rfl, fr6⟩
    (repeat (first | refine St.go ?_ | refine R.eVar rfl ?_ | refine ⟨_, rfl, ?_⟩ | refine R.sAug rfl ?_ | refine R.vSliT rfl rfl ?_ | refine R.vIsiNo rfl ?_ | refine R.vIsiBl rfl ?_ | refine R.vIsiIn rfl ?_ | refine R.vIsiSt rfl ?_ | refine R.vIsiTu rfl ?_ | refine R.ssCons ?_ | refine R.ssNil ?_ | refine R.w_iteT ?_ | refine R.w_iteF ?_))
    refine R.w_mono (value_run views h_value hq (b := b0) (L := L0) t0.ok (by omega)) ?_
    rintro v S7 ⟨rfl, fr7⟩
    (repeat (first | refine St.go ?_ | refine R.eVar rfl ?_ | refine ⟨_, rfl, ?_⟩ | refine R.sAug rfl ?_ | refine R.vSliT rfl rfl ?_ | refine R.vIsiNo rfl ?_ | refine R.vIsiBl rfl ?_ | refine R.vIsiIn rfl ?_ | refine R.vIsiSt rfl ?_ | refine R.vIsiTu rfl ?_ | refine R.ssCons ?_ | refine R.ssNil ?_ | refine R.w_iteT ?_ | refine R.w_iteF ?_))
    refine R.w_mono (value_run views h_value hp (b := b1) (L := L1) t1.ok (by omega)) ?_
    rintro v S8 ⟨rfl, fr8⟩
    rw [eq0, tsum_app]
    (repeat (first | refine St.go ?_ | refine R.eVar rfl ?_ | refine ⟨_, rfl, ?_⟩ | refine R.sAug rfl ?_ | refine R.vSliT rfl rfl ?_ | refine R.vIsiNo rfl ?_ | refine R.vIsiBl rfl ?_ | refine R.vIsiIn rfl ?_ | refine R.vIsiSt rfl ?_ | refine R.vIsiTu rfl ?_ | refine R.ssCons ?_ | refine R.ssNil ?_ | refine R.w_iteT ?_ | refine R.w_iteF ?_))
    refine isT (α := Nat) (by omega) (by omega) ?_
    (repeat (first | refine St.go ?_ | refine R.eVar rfl ?_ | refine ⟨_, rfl, ?_⟩ | refine R.sAug rfl ?_ | refine R.vSliT rfl rfl ?_ | refine R.vIsiNo rfl ?_ | refine R.vIsiBl rfl ?_ | refine R.vIsiIn rfl ?_ | refine R.vIsiSt rfl ?_ | refine R.vIsiTu rfl ?_ | refine R.ssCons ?_ | refine R.ssNil ?_ | refine R.w_iteT ?_ | refine R.w_iteF ?_))
    exact ⟨rfl, fr.trans (fr6.trans (fr7.trans fr8))⟩
end
section
variable {glo : Str → Option Val} {scr : List Int} {gas m n : Nat} {S : Sto}
def fx8 : List ((Int × List Prt) × Int) := [((0, []), 0), ((-1000000, []), -1000000), ((1, [.times "n" 1000]), -999999), ((1, [.times "gone" 5]), 1), ((1, [.of "gone" [5, 5]]), 1), ((0, [.of "o" [4, 5]]), 0), ((0, [.of "o" [4, 5, 6]]), 6),
  ((0, [.of "o" [4, 5, 6, 7, 8]]), 6), ((0, [.of "s" []]), 0), ((0, [.of "s" [1, 20]]), 21), ((0, [.of "s" [1, 20, 300, 4000, 9]]), 4021), ((0, [.times "m" 2, .times "m" (-2)]), 0), ((0, [.times "m" 1, .times "m" 1]), 14),
  ((3, [.whr (.given "n") 4, .whr (.given "gone") 50]), 7), ((0, [.of "s" [0, 0, 5]]), 0), ((0, [.whr (.least 0 (.cons (.of "s" [1, 1, 1, 1]) .nil) 3) 8, .whr (.any .nil) 9]), 8)]
def fx8v : List Val := fx8.map fun p => .tup [tv p.1.1 p.1.2, .int p.2]
def tS (g : Nat) (x : Str) : Nat := if x = "n" then 3 else if x = "s" then 2 else if x = "m" then 3 else if x = "o" then 1 else g
abbrev q1 : Str × Val := (("n" : Str), Val.int (-1000))
abbrev q2 : Str × Val := (("s" : Str), Val.tup [.int 0, .int 1, .int 3])
abbrev q3 : Str × Val := (("m" : Str), Val.int 7)
abbrev q4 : Str × Val := (("o" : Str), Val.int 2)
abbrev ps8 : Ps := [q1, q2, q3, q4]
theorem ps8_nd : (ps8.map (·.1)).Nodup := by decide +kernel
theorem tS1 (g : Nat) : tS g "n" = 3 := by unfold tS; rw [if_pos rfl]
theorem tS2 (g : Nat) : tS g "s" = 2 := by unfold tS; rw [if_neg (by decide +kernel), if_pos rfl]
theorem tS3 (g : Nat) : tS g "m" = 3 := by unfold tS; rw [if_neg (by decide +kernel), if_neg (by decide +kernel), if_pos rfl]
theorem tS4 (g : Nat) : tS g "o" = 1 := by unfold tS; rw [if_neg (by decide +kernel), if_neg (by decide +kernel), if_neg (by decide +kernel), if_pos rfl]
theorem ps8_ok (g : Nat) : PsOk (tS g) ps8 := by
  refine PsOk.of ps8_nd (fun p hp => ?_) (by decide)
  simp only [List.mem_cons, List.not_mem_nil, or_false] at hp
  rcases hp with rfl | rfl | rfl | rfl
  · show AnsS (tS g "n") _
    rw [tS1]; exact .inr (.inr ⟨rfl, -1000, by decide, by decide, rfl⟩)
  · show AnsS (tS g "s") _
    rw [tS2]; exact .inr (.inl ⟨rfl, [0, 1, 3], by decide, by decide, by decide, rfl⟩)
  · show AnsS (tS g "m") _
    rw [tS3]; exact .inr (.inr ⟨rfl, 7, by decide, by decide, rfl⟩)
  · show AnsS (tS g "o") _
    rw [tS4]; exact .inl ⟨rfl, 2, by decide, rfl⟩
theorem ps8_rev (g : Nat) : PsOk (tS g) ps8.reverse := PsOk.of ((List.reverse_perm _).map _ |>.nodup_iff.mpr ps8_nd) (fun p hp => (ps8_ok g).ans (List.mem_reverse.mp hp)) (by decide)
theorem look_rev : look ps8.reverse = look ps8 := look_perm (List.reverse_perm _) (((List.reverse_perm _).map _).nodup_iff.mpr ps8_nd)
theorem fx8_ok : (fx8.all fun p => ((p.1.2.all fun q => okB1 (tS 1) q && decide (q.need ≤ 6)) || (p.1.2.all fun q => okB1 (tS 3) q && decide (q.need ≤ 6))) && decide (p.1.2.length ≤ 100) && decide (p.1.1 + tsum ps8 p.1.2 = p.2)) = true := by decide +kernel
theorem hand_run (hm : 10 ≤ m) : V ((K D glo scr gas (m + 1)).call "_law_by_hand" []) S fun v S' => v = .bl true := by
  obtain ⟨k0, rfl⟩ : ∃ k0, m = k0 + 2 := ⟨m - 2, by omega⟩
  have hl : S.length ≤ S.length := Nat.le_refl _
  refine call_at h_hand rfl ?_
  (repeat (first | refine St.go ?_ | refine R.eVar rfl ?_ | refine ⟨_, rfl, ?_⟩ | refine R.sAug rfl ?_ | refine R.vSliT rfl rfl ?_ | refine R.vIsiNo rfl ?_ | refine R.vIsiBl rfl ?_ | refine R.vIsiIn rfl ?_ | refine R.vIsiSt rfl ?_ | refine R.vIsiTu rfl ?_ | refine R.ssCons ?_ | refine R.ssNil ?_ | refine R.w_iteT ?_ | refine R.w_iteF ?_))
  refine R.vPow rfl ?_
  (repeat (first | refine St.go ?_ | refine R.eVar rfl ?_ | refine ⟨_, rfl, ?_⟩ | refine R.sAug rfl ?_ | refine R.vSliT rfl rfl ?_ | refine R.vIsiNo rfl ?_ | refine R.vIsiBl rfl ?_ | refine R.vIsiIn rfl ?_ | refine R.vIsiSt rfl ?_ | refine R.vIsiTu rfl ?_ | refine R.ssCons ?_ | refine R.ssNil ?_ | refine R.w_iteT ?_ | refine R.w_iteF ?_))
  refine R.vPow rfl ?_
  (repeat (first | refine St.go ?_ | refine R.eVar rfl ?_ | refine ⟨_, rfl, ?_⟩ | refine R.sAug rfl ?_ | refine R.vSliT rfl rfl ?_ | refine R.vIsiNo rfl ?_ | refine R.vIsiBl rfl ?_ | refine R.vIsiIn rfl ?_ | refine R.vIsiSt rfl ?_ | refine R.vIsiTu rfl ?_ | refine R.ssCons ?_ | refine R.ssNil ?_ | refine R.w_iteT ?_ | refine R.w_iteF ?_))
  refine R.vPow rfl ?_
  (repeat (first | refine St.go ?_ | refine R.eVar rfl ?_ | refine ⟨_, rfl, ?_⟩ | refine R.sAug rfl ?_ | refine R.vSliT rfl rfl ?_ | refine R.vIsiNo rfl ?_ | refine R.vIsiBl rfl ?_ | refine R.vIsiIn rfl ?_ | refine R.vIsiSt rfl ?_ | refine R.vIsiTu rfl ?_ | refine R.ssCons ?_ | refine R.ssNil ?_ | refine R.w_iteT ?_ | refine R.w_iteF ?_))
  refine R.vTyL List.getElem?_concat_length ?_
  (repeat (first | refine St.go ?_ | refine R.eVar rfl ?_ | refine ⟨_, rfl, ?_⟩ | refine R.sAug rfl ?_ | refine R.vSliT rfl rfl ?_ | refine R.vIsiNo rfl ?_ | refine R.vIsiBl rfl ?_ | refine R.vIsiIn rfl ?_ | refine R.vIsiSt rfl ?_ | refine R.vIsiTu rfl ?_ | refine R.ssCons ?_ | refine R.ssNil ?_ | refine R.w_iteT ?_ | refine R.w_iteF ?_))
  refine ext1 (C := K D glo scr gas k0) List.getElem?_concat_length Fr.alloc hl (by decide) fun S1 hb1 fr1 => ?_
  (repeat (first | refine St.go ?_ | refine R.eVar rfl ?_ | refine ⟨_, rfl, ?_⟩ | refine R.sAug rfl ?_ | refine R.vSliT rfl rfl ?_ | refine R.vIsiNo rfl ?_ | refine R.vIsiBl rfl ?_ | refine R.vIsiIn rfl ?_ | refine R.vIsiSt rfl ?_ | refine R.vIsiTu rfl ?_ | refine R.ssCons ?_ | refine R.ssNil ?_ | refine R.w_iteT ?_ | refine R.w_iteF ?_))
  refine R.vTyL hb1 ?_
  (repeat (first | refine St.go ?_ | refine R.eVar rfl ?_ | refine ⟨_, rfl, ?_⟩ | refine R.sAug rfl ?_ | refine R.vSliT rfl rfl ?_ | refine R.vIsiNo rfl ?_ | refine R.vIsiBl rfl ?_ | refine R.vIsiIn rfl ?_ | refine R.vIsiSt rfl ?_ | refine R.vIsiTu rfl ?_ | refine R.ssCons ?_ | refine R.ssNil ?_ | refine R.w_iteT ?_ | refine R.w_iteF ?_))
  refine ext1 (C := K D glo scr gas k0) hb1 fr1 hl (by decide) fun S2 hb2 fr2 => ?_
  (repeat (first | refine St.go ?_ | refine R.eVar rfl ?_ | refine ⟨_, rfl, ?_⟩ | refine R.sAug rfl ?_ | refine R.vSliT rfl rfl ?_ | refine R.vIsiNo rfl ?_ | refine R.vIsiBl rfl ?_ | refine R.vIsiIn rfl ?_ | refine R.vIsiSt rfl ?_ | refine R.vIsiTu rfl ?_ | refine R.ssCons ?_ | refine R.ssNil ?_ | refine R.w_iteT ?_ | refine R.w_iteF ?_))
  refine R.vTyL hb2 ?_
  (repeat (first | refine St.go ?_ | refine R.eVar rfl ?_ | refine ⟨_, rfl, ?_⟩ | refine R.sAug rfl ?_ | refine R.vSliT rfl rfl ?_ | refine R.vIsiNo rfl ?_ | refine R.vIsiBl rfl ?_ | refine R.vIsiIn rfl ?_ | refine R.vIsiSt rfl ?_ | refine R.vIsiTu rfl ?_ | refine R.ssCons ?_ | refine R.ssNil ?_ | refine R.w_iteT ?_ | refine R.w_iteF ?_))
  refine ext1 (C := K D glo scr gas k0) hb2 fr2 hl (by decide) fun S3 hb3 fr3 => ?_
  (repeat (first | refine St.go ?_ | refine R.eVar rfl ?_ | refine ⟨_, rfl, ?_⟩ | refine R.sAug rfl ?_ | refine R.vSliT rfl rfl ?_ | refine R.vIsiNo rfl ?_ | refine R.vIsiBl rfl ?_ | refine R.vIsiIn rfl ?_ | refine R.vIsiSt rfl ?_ | refine R.vIsiTu rfl ?_ | refine R.ssCons ?_ | refine R.ssNil ?_ | refine R.w_iteT ?_ | refine R.w_iteF ?_))
  refine R.vTyL hb3 ?_
  (repeat (first | refine St.go ?_ | refine R.eVar rfl ?_ | refine ⟨_, rfl, ?_⟩ | refine R.sAug rfl ?_ | refine R.vSliT rfl rfl ?_ | refine R.vIsiNo rfl ?_ | refine R.vIsiBl rfl ?_ | refine R.vIsiIn rfl ?_ | refine R.vIsiSt rfl ?_ | refine R.vIsiTu rfl ?_ | refine R.ssCons ?_ | refine R.ssNil ?_ | refine R.w_iteT ?_ | refine R.w_iteF ?_))
  refine ext1 (C := K D glo scr gas k0) hb3 fr3 hl (by decide) fun S4 hb4 fr4 => ?_
  (repeat (first | refine St.go ?_ | refine R.eVar rfl ?_ | refine ⟨_, rfl, ?_⟩ | refine R.sAug rfl ?_ | refine R.vSliT rfl rfl ?_ | refine R.vIsiNo rfl ?_ | refine R.vIsiBl rfl ?_ | refine R.vIsiIn rfl ?_ | refine R.vIsiSt rfl ?_ | refine R.vIsiTu rfl ?_ | refine R.ssCons ?_ | refine R.ssNil ?_ | refine R.w_iteT ?_ | refine R.w_iteF ?_))
  refine R.vTyL hb4 ?_
  (repeat (first | refine St.go ?_ | refine R.eVar rfl ?_ | refine ⟨_, rfl, ?_⟩ | refine R.sAug rfl ?_ | refine R.vSliT rfl rfl ?_ | refine R.vIsiNo rfl ?_ | refine R.vIsiBl rfl ?_ | refine R.vIsiIn rfl ?_ | refine R.vIsiSt rfl ?_ | refine R.vIsiTu rfl ?_ | refine R.ssCons ?_ | refine R.ssNil ?_ | refine R.w_iteT ?_ | refine R.w_iteF ?_))
  refine ext1 (C := K D glo scr gas k0) hb4 fr4 hl (by decide) fun S5 hb5 fr5 => ?_
  (repeat (first | refine St.go ?_ | refine R.eVar rfl ?_ | refine ⟨_, rfl, ?_⟩ | refine R.sAug rfl ?_ | refine R.vSliT rfl rfl ?_ | refine R.vIsiNo rfl ?_ | refine R.vIsiBl rfl ?_ | refine R.vIsiIn rfl ?_ | refine R.vIsiSt rfl ?_ | refine R.vIsiTu rfl ?_ | refine R.ssCons ?_ | refine R.ssNil ?_ | refine R.w_iteT ?_ | refine R.w_iteF ?_))
  refine R.vTyL hb5 ?_
  (repeat (first | refine St.go ?_ | refine R.eVar rfl ?_ | refine ⟨_, rfl, ?_⟩ | refine R.sAug rfl ?_ | refine R.vSliT rfl rfl ?_ | refine R.vIsiNo rfl ?_ | refine R.vIsiBl rfl ?_ | refine R.vIsiIn rfl ?_ | refine R.vIsiSt rfl ?_ | refine R.vIsiTu rfl ?_ | refine R.ssCons ?_ | refine R.ssNil ?_ | refine R.w_iteT ?_ | refine R.w_iteF ?_))
  refine app1 (C := K D glo scr gas k0) hb5 fr5 hl (by decide) fun S6 hb6 fr6 => ?_
  (repeat (first | refine St.go ?_ | refine R.eVar rfl ?_ | refine ⟨_, rfl, ?_⟩ | refine R.sAug rfl ?_ | refine R.vSliT rfl rfl ?_ | refine R.vIsiNo rfl ?_ | refine R.vIsiBl rfl ?_ | refine R.vIsiIn rfl ?_ | refine R.vIsiSt rfl ?_ | refine R.vIsiTu rfl ?_ | refine R.ssCons ?_ | refine R.ssNil ?_ | refine R.w_iteT ?_ | refine R.w_iteF ?_))
  refine R.vTyL hb6 ?_
  (repeat (first | refine St.go ?_ | refine R.eVar rfl ?_ | refine ⟨_, rfl, ?_⟩ | refine R.sAug rfl ?_ | refine R.vSliT rfl rfl ?_ | refine R.vIsiNo rfl ?_ | refine R.vIsiBl rfl ?_ | refine R.vIsiIn rfl ?_ | refine R.vIsiSt rfl ?_ | refine R.vIsiTu rfl ?_ | refine R.ssCons ?_ | refine R.ssNil ?_ | refine R.w_iteT ?_ | refine R.w_iteF ?_))
  refine app1 (C := K D glo scr gas k0) hb6 fr6 hl (by decide) fun S7 hb7 fr7 => ?_
  (repeat (first | refine St.go ?_ | refine R.eVar rfl ?_ | refine ⟨_, rfl, ?_⟩ | refine R.sAug rfl ?_ | refine R.vSliT rfl rfl ?_ | refine R.vIsiNo rfl ?_ | refine R.vIsiBl rfl ?_ | refine R.vIsiIn rfl ?_ | refine R.vIsiSt rfl ?_ | refine R.vIsiTu rfl ?_ | refine R.ssCons ?_ | refine R.ssNil ?_ | refine R.w_iteT ?_ | refine R.w_iteF ?_))
  refine R.vTyL hb7 ?_
  (repeat (first | refine St.go ?_ | refine R.eVar rfl ?_ | refine ⟨_, rfl, ?_⟩ | refine R.sAug rfl ?_ | refine R.vSliT rfl rfl ?_ | refine R.vIsiNo rfl ?_ | refine R.vIsiBl rfl ?_ | refine R.vIsiIn rfl ?_ | refine R.vIsiSt rfl ?_ | refine R.vIsiTu rfl ?_ | refine R.ssCons ?_ | refine R.ssNil ?_ | refine R.w_iteT ?_ | refine R.w_iteF ?_))
  refine app1 (C := K D glo scr gas k0) hb7 fr7 hl (by decide) fun S8 hb8 fr8 => ?_
  (repeat (first | refine St.go ?_ | refine R.eVar rfl ?_ | refine ⟨_, rfl, ?_⟩ | refine R.sAug rfl ?_ | refine R.vSliT rfl rfl ?_ | refine R.vIsiNo rfl ?_ | refine R.vIsiBl rfl ?_ | refine R.vIsiIn rfl ?_ | refine R.vIsiSt rfl ?_ | refine R.vIsiTu rfl ?_ | refine R.ssCons ?_ | refine R.ssNil ?_ | refine R.w_iteT ?_ | refine R.w_iteF ?_))
  have hb : S8[S.length]? = some (.lst fx8v) := hb8
  refine R.vWalkL hb ?_
  refine ⟨show 16 ≤ PySem.sizeLine by decide, ?_⟩
  refine R.w_com (w := ⟨fx8v, [(S.length, fx8v)]⟩) (I := fun k acc S' => Fr F0 S8 S' ∧ acc = (List.replicate k true).map Val.bl) ?_ ?_ ⟨Fr.refl, rfl⟩
  · rintro k x acc S9 hk ⟨fr9, rfl⟩
    have hk : (fx8.map fun p => Val.tup [tv p.1.1 p.1.2, .int p.2])[k]? = some x := hk
    rw [List.getElem?_map] at hk
    cases e3 : fx8[k]? with
    | none => rw [e3] at hk; cases hk
    | some p =>
      rw [e3] at hk
      cases hk
      have h1 := List.all_eq_true.mp fx8_ok p (List.mem_of_getElem? e3)
      rw [Bool.and_eq_true, Bool.and_eq_true, decide_eq_true_eq, decide_eq_true_eq, Bool.or_eq_true] at h1
      obtain ⟨⟨h1, h2⟩, h3⟩ := h1
      obtain ⟨g, hg⟩ : ∃ g, ∀ q ∈ p.1.2, q.Ok (tS g) ∧ q.need ≤ k0 := by
        rcases h1 with h1 | h1
        · exact ⟨1, fun q hq => by
            have := List.all_eq_true.mp h1 q hq
            rw [Bool.and_eq_true, decide_eq_true_eq] at this
            exact ⟨okB1_ok q this.1, by omega⟩⟩
        · exact ⟨3, fun q hq => by
            have := List.all_eq_true.mp h1 q hq
            rw [Bool.and_eq_true, decide_eq_true_eq] at this
            exact ⟨okB1_ok q this.1, by omega⟩⟩
      refine ⟨fun q hq => by simp only [List.mem_singleton] at hq; subst hq; exact fr9.get hb id, R.tOne rfl ?_⟩
      (repeat (first | refine St.go ?_ | refine R.eVar rfl ?_ | refine ⟨_, rfl, ?_⟩ | refine R.sAug rfl ?_ | refine R.vSliT rfl rfl ?_ | refine R.vIsiNo rfl ?_ | refine R.vIsiBl rfl ?_ | refine R.vIsiIn rfl ?_ | refine R.vIsiSt rfl ?_ | refine R.vIsiTu rfl ?_ | refine R.ssCons ?_ | refine R.ssNil ?_ | refine R.w_iteT ?_ | refine R.w_iteF ?_))
      refine R.w_mono (value_run (ps := ps8) views h_value (ps8_ok g) (b := p.1.1) (L := p.1.2) hg (by omega)) ?_
      rintro v S10 ⟨rfl, fr10⟩
      (repeat (first | refine St.go ?_ | refine R.eVar rfl ?_ | refine ⟨_, rfl, ?_⟩ | refine R.sAug rfl ?_ | refine R.vSliT rfl rfl ?_ | refine R.vIsiNo rfl ?_ | refine R.vIsiBl rfl ?_ | refine R.vIsiIn rfl ?_ | refine R.vIsiSt rfl ?_ | refine R.vIsiTu rfl ?_ | refine R.ssCons ?_ | refine R.ssNil ?_ | refine R.w_iteT ?_ | refine R.w_iteF ?_))
      refine isT (α := Nat) (by omega) h3 ?_
      (repeat (first | refine St.go ?_ | refine R.eVar rfl ?_ | refine ⟨_, rfl, ?_⟩ | refine R.sAug rfl ?_ | refine R.vSliT rfl rfl ?_ | refine R.vIsiNo rfl ?_ | refine R.vIsiBl rfl ?_ | refine R.vIsiIn rfl ?_ | refine R.vIsiSt rfl ?_ | refine R.vIsiTu rfl ?_ | refine R.ssCons ?_ | refine R.ssNil ?_ | refine R.w_iteT ?_ | refine R.w_iteF ?_))
      refine R.w_mono (value_run (ps := ps8.reverse) views h_value (ps8_rev g) (b := p.1.1) (L := p.1.2) hg (by omega)) ?_
      rintro v S11 ⟨rfl, fr11⟩
      (repeat (first | refine St.go ?_ | refine R.eVar rfl ?_ | refine ⟨_, rfl, ?_⟩ | refine R.sAug rfl ?_ | refine R.vSliT rfl rfl ?_ | refine R.vIsiNo rfl ?_ | refine R.vIsiBl rfl ?_ | refine R.vIsiIn rfl ?_ | refine R.vIsiSt rfl ?_ | refine R.vIsiTu rfl ?_ | refine R.ssCons ?_ | refine R.ssNil ?_ | refine R.w_iteT ?_ | refine R.w_iteF ?_))
      refine isT (α := Nat) (by omega) (by rw [← h3]; unfold tsum; rw [look_rev]) ?_
      refine ⟨fr9.trans (fr10.trans fr11), ?_⟩
      rw [List.replicate_succ', List.map_append]
      rfl
  · rintro acc S9 ⟨fr9, rfl⟩
    refine ⟨fun q hq => by simp only [List.mem_singleton] at hq; subst hq; exact fr9.get hb id, ?_⟩
    refine R.vAll ?_
    (repeat (first | refine St.go ?_ | refine R.eVar rfl ?_ | refine ⟨_, rfl, ?_⟩ | refine R.sAug rfl ?_ | refine R.vSliT rfl rfl ?_ | refine R.vIsiNo rfl ?_ | refine R.vIsiBl rfl ?_ | refine R.vIsiIn rfl ?_ | refine R.vIsiSt rfl ?_ | refine R.vIsiTu rfl ?_ | refine R.ssCons ?_ | refine R.ssNil ?_ | refine R.w_iteT ?_ | refine R.w_iteF ?_))
    rfl
end
end Lk08

end

section
set_option maxHeartbeats 1000000
set_option exponentiation.threshold 5000
namespace Lk08
open Ev G
open PySem (Str PyData)
theorem pf_snd {k w : Nat} {x y : Val} (h : PF k w (.tup [x, y])) : PF k w y := by
  have e : dOf (.tup [x, y]) = .tuple [dOf x, dOf y] := by simp [dOf, dOfs]
  refine ⟨fun X S => ?_, ?_⟩
  · have r := h.rd X S
    rw [e] at r
    cases r with
    | tup r => cases r with
      | cons _ r => cases r with
        | cons r _ => exact r
  · have f := h.ft
    rw [e] at f
    obtain ⟨k1, w1, e1, e2, g⟩ := f.of_tup
    obtain ⟨_, _, e3, _, g2⟩ := g.unc
    obtain ⟨_, _, e4, g3, _⟩ := g2.unc
    exact g3.mono (by omega) (by omega) (Nat.le_refl _)
theorem pf_tlen {k w : Nat} {vs : List Val} (h : PF k w (.tup vs)) : 2 * vs.length ≤ w := by
  have f := h.ft
  have e : dOf (.tup vs) = .tuple (dOfs vs) := by simp [dOf]
  rw [e] at f
  obtain ⟨k1, w1, e1, e2, g⟩ := f.of_tup
  have h1 := fits_len g
  have r := h.rd (fun _ => False) []
  rw [e] at r
  cases r with
  | tup r =>
    have := r.length
    omega
def bRound : Sxs := match Hk08.f_law.body with
  | .cons _ (.cons (.for_ _ _ b) _) => b
  | _ => .nil
abbrev e19 (f : Nat) (kv : Val) (o3 o4 o5 o6 o7 o8 o9 o10 o11 o12 o13 o14 o15 o16 o17 o18 : Option Val) : Env := [some .scr, some (.loc f), some kv, o3, o4, o5, o6, o7, o8, o9, o10, o11, o12, o13, o14, o15, o16, o17, o18]
def FinE (f : Nat) (kv : Val) (fl : Flo) : Prop := ∃ o3 o4 o5 o6 o7 o8 o9 o10 o11 o12 o13 o14 o15 o16 o17 o18, fl = .nx (e19 f kv o3 o4 o5 o6 o7 o8 o9 o10 o11 o12 o13 o14 o15 o16 o17 o18)
def dropS : Nat → Sxs → Sxs
  | 0, s => s
  | n + 1, .cons _ s => dropS n s
  | _ + 1, .nil => .nil
def bTail : Sxs := dropS 11 bRound
section
variable {glo : Str → Option Val} {scr : List Int} {gas n m : Nat} {S : Sto} {f B : Nat}
theorem sb3 : SB 3 = 4247 := by decide
theorem sw3 : SW 3 = 80000 := by decide
/-- three terms -/
theorem three_ok {ks : Ks} {kl : Nat} (hn : 20 ≤ n) (fd : Feed f (B + 3 * 12836) S) (hkl : S[kl]? = some (.lst (kvs ks))) (ok : KsOk ks) (hkf : kl ≠ f) {ρ : Env} (h1 : ρ[1]? = some (some (.loc f))) (h3 : ρ[3]? = some (some (.loc kl))) (hl : ρ.length = 19) {Q : List Val → Sto → Prop}
    (q : ∀ (ts : Tms) S', ts.length = 3 → (∀ p ∈ ts, TOk (T ks) 13 p ∧ PF 20 240600 (tv p.1 p.2)) → Feed f B S' → Fr (At f) S S' → Q (tvs ts) S') :
    V (xCom ⟨(List.range 3).map fun k => .int (k : Nat), []⟩ (xTurn (K D glo scr gas n) [11] (.nam 11) (.bl true) (.call "_law_term" (.cons (.var 1) (.cons (.var 3) (.cons (.int 3) (.cons (.lst (.cons (.int 10) .nil)) .nil))))) ρ) ((List.range 3).map fun k => .int (k : Nat))) S Q := by
  refine R.w_com (w := ⟨(List.range 3).map fun k => .int (k : Nat), []⟩) (I := fun k acc S' => k ≤ 3 ∧ Feed f (B + (3 - k) * 12836) S' ∧ Fr (At f) S S' ∧ ∃ ts : Tms, acc = tvs ts ∧ ts.length = k ∧ ∀ p ∈ ts, TOk (T ks) 13 p ∧ PF 20 240600 (tv p.1 p.2)) ?_ ?_ ⟨by omega, fd, Fr.refl, [], rfl, rfl, (fun _ h => nomatch h)⟩
  · rintro k x acc S1 hk ⟨hk1, fd1, fr1, ts, rfl, hll, hls⟩
    have hk2 : k < 3 := by
      have := (List.getElem?_eq_some_iff.mp hk).1
      simpa using this
    have ea : asg (.nam 11) x (wipe ρ [11]) = some ((wipe ρ [11]).set 11 (some x)) := by
      show (if 11 < (wipe ρ [11]).length then _ else _) = _
      rw [if_pos (by simp [wipe, hl])]
    have g1 : ((wipe ρ [11]).set 11 (some x))[1]? = some (some (.loc f)) := by
      rw [List.getElem?_set_ne (by decide)]
      show (ρ.set 11 none)[1]? = _
      rw [List.getElem?_set_ne (by decide)]; exact h1
    have g3 : ((wipe ρ [11]).set 11 (some x))[3]? = some (some (.loc kl)) := by
      rw [List.getElem?_set_ne (by decide)]
      show (ρ.set 11 none)[3]? = _
      rw [List.getElem?_set_ne (by decide)]; exact h3
    have lf : f < S1.length := by
      obtain ⟨c, cells, a, b, t, h, _⟩ := fd1
      exact (List.getElem?_eq_some_iff.mp h).1
    have hkl1 := fr1.get hkl hkf
    have lkl : kl < S1.length := (List.getElem?_eq_some_iff.mp hkl1).1
    have bud : B + (3 - k) * 12836 = B + (3 - (k + 1)) * 12836 + 12836 := by omega
    rw [bud] at fd1
    refine ⟨nh, R.tOne ea ?_⟩
    (repeat (first | refine St.go ?_ | refine R.eVar rfl ?_ | refine ⟨_, rfl, ?_⟩ | refine R.sAug rfl ?_ | refine R.vSliT rfl rfl ?_ | refine R.vIsiNo rfl ?_ | refine R.vIsiBl rfl ?_ | refine R.vIsiIn rfl ?_ | refine R.vIsiSt rfl ?_ | refine R.vIsiTu rfl ?_ | refine R.ssCons ?_ | refine R.ssNil ?_ | refine R.w_iteT ?_ | refine R.w_iteF ?_))
    refine R.eVar g1 ?_
    (repeat (first | refine St.go ?_ | refine R.eVar rfl ?_ | refine ⟨_, rfl, ?_⟩ | refine R.sAug rfl ?_ | refine R.vSliT rfl rfl ?_ | refine R.vIsiNo rfl ?_ | refine R.vIsiBl rfl ?_ | refine R.vIsiIn rfl ?_ | refine R.vIsiSt rfl ?_ | refine R.vIsiTu rfl ?_ | refine R.ssCons ?_ | refine R.ssNil ?_ | refine R.w_iteT ?_ | refine R.w_iteF ?_))
    refine R.eVar g3 ?_
    (repeat (first | refine St.go ?_ | refine R.eVar rfl ?_ | refine ⟨_, rfl, ?_⟩ | refine R.sAug rfl ?_ | refine R.vSliT rfl rfl ?_ | refine R.vIsiNo rfl ?_ | refine R.vIsiBl rfl ?_ | refine R.vIsiIn rfl ?_ | refine R.vIsiSt rfl ?_ | refine R.vIsiTu rfl ?_ | refine R.ssCons ?_ | refine R.ssNil ?_ | refine R.w_iteT ?_ | refine R.w_iteF ?_))
    have gs : GS f (B + (3 - (k + 1)) * 12836 + (3 * SB 3 + 95)) S1.length kl ks (S1 ++ [.lst [.int 10]]) := ⟨by rw [sb3]; exact fd1.grow Fr.alloc, ⟨10, List.getElem?_concat_length⟩, (Fr.alloc (X := F0)).get hkl1 id, ok, lf, hkf, by omega⟩
    refine term_c gen (d := 3) (by decide) (by omega) gs fun b ps S2 pok pl pn ppf b0 b1 g2 fr2 => ?_
    have ev : ps.vs = ps.toL.map Prt.v := by rw [← ofL_vs, ofL_toL]
    rw [ev]
    rw [ev] at ppf
    rw [sw3] at ppf
    have pfl := pf_tlen (pf_snd ppf)
    rw [List.length_map] at pfl
    refine ⟨hk2, g2.fd, fr1.trans (frDrop fr2), ts ++ [(b, ps.toL)], by unfold tvs; simp, by simp [hll], fun t ht => ?_⟩
    rcases List.mem_append.mp ht with ht | ht
    · exact hls t ht
    · simp only [List.mem_singleton] at ht
      subst ht
      refine ⟨⟨fun q hq => ⟨?_, ?_⟩, by dsimp only; omega⟩, ppf⟩
      · have := (ofL_ok (T := T ks) ps.toL).mp (by rw [ofL_toL]; exact pok)
        exact this q hq
      · have := (ofL_need (n := 13) ps.toL).mp (by rw [ofL_toL]; omega)
        exact this q hq
  · rintro acc S1 ⟨hk1, fd1, fr1, ts, rfl, hll, hls⟩
    refine ⟨nh, ?_⟩
    exact q ts S1 hll hls (by simpa using fd1) fr1
theorem tail_ok {kv : Val} {o3 o5 o6 o7 o8 o11 o12 o15 o17 o18 : Option Val} {ps1 ps2 le an : Ps} {b : Nat} {ts : Tms} {d : PyData} {w : Nat} {T : Str → Nat} (fd : Feed f B S) (hb : S[b]? = some (.lst (tvs ts)))
    (p1 : PsOk T ps1) (p2 : PsOk T ps2) (p3 : PsOk T le) (p4 : PsOk T an) (pm : ps2.Perm ps1) (ok : ∀ s ∈ ts, TOk T m s) (hl : ts.length = 3)
    (rd : ∀ S', S'[b]? = some (.lst (tvs ts)) → Rd (fun _ => False) S' (.tup [.tup (pv ps1), .tup (pv ps2), .tup (pv le), .loc b]) d) (ft : Fit 25 w 64 d) (hw : w ≤ PySem.sizeLine) :
    V (xSs (K D glo scr gas (m + 3)) bTail (e19 f kv o3 (some (.tup (pv ps1))) o5 o6 o7 o8 (some (.tup (pv ps2))) (some (.loc b)) o11 o12 (some (.tup (pv le))) (some (.tup (pv an))) o15 (some (.str d.shown)) o17 o18)) S fun fl S' => Feed f B S' ∧ FinE f kv fl := by
  unfold bTail
  (repeat (first | refine St.go ?_ | refine R.eVar rfl ?_ | refine ⟨_, rfl, ?_⟩ | refine R.sAug rfl ?_ | refine R.vSliT rfl rfl ?_ | refine R.vIsiNo rfl ?_ | refine R.vIsiBl rfl ?_ | refine R.vIsiIn rfl ?_ | refine R.vIsiSt rfl ?_ | refine R.vIsiTu rfl ?_ | refine R.ssCons ?_ | refine R.ssNil ?_ | refine R.w_iteT ?_ | refine R.w_iteF ?_))
  rw [pv_rev, pv_rev, pv_rev]
  have rv : ∀ {ps : Ps}, PsOk T ps → PsOk T ps.reverse := fun h => PsOk.of ((List.reverse_perm _).map _ |>.nodup_iff.mpr h.nd) (fun p hp => h.ans (List.mem_reverse.mp hp)) (by rw [List.length_reverse]; exact h.len)
  have items : ∃ its : List (Ps × Ps), [Val.tup [.tup (pv ps1), .tup (pv ps2)], .tup [.tup (pv an), .tup (pv an.reverse)], .tup [.tup (pv le), .tup (pv le.reverse)], .tup [.tup (pv ps1.reverse), .tup (pv ps1)]] = its.map (fun p => Val.tup [.tup (pv p.1), .tup (pv p.2)]) ∧ ∀ p ∈ its, PsOk T p.1 ∧ PsOk T p.2 ∧ look p.1 = look p.2 := by
    refine ⟨[(ps1, ps2), (an, an.reverse), (le, le.reverse), (ps1.reverse, ps1)], rfl, fun p hp => ?_⟩
    simp only [List.mem_cons, List.not_mem_nil, or_false] at hp
    rcases hp with rfl | rfl | rfl | rfl
    · exact ⟨p1, p2, look_perm pm.symm p1.nd⟩
    · exact ⟨p4, rv p4, look_perm (List.reverse_perm _).symm p4.nd⟩
    · exact ⟨p3, rv p3, look_perm (List.reverse_perm _).symm p3.nd⟩
    · exact ⟨rv p1, p1, look_perm (List.reverse_perm _) (rv p1).nd⟩
  obtain ⟨its, e, hits⟩ := items
  rw [e]
  refine R.w_for (w := ⟨its.map fun p => Val.tup [.tup (pv p.1), .tup (pv p.2)], []⟩) (I := fun k ρ S' => Fr F0 S S' ∧ ∃ o17 o18, ρ = e19 f kv o3 (some (.tup (pv ps1))) o5 o6 o7 o8 (some (.tup (pv ps2))) (some (.loc b)) o11 o12 (some (.tup (pv le))) (some (.tup (pv an))) o15 (some (.str d.shown)) o17 o18) ?_ ?_ ⟨Fr.refl, _, _, rfl⟩
  · rintro k x ρ S1 hk ⟨fr, o17, o18, rfl⟩
    have hk : (its.map fun p => Val.tup [.tup (pv p.1), .tup (pv p.2)])[k]? = some x := hk
    rw [List.getElem?_map] at hk
    cases e3 : its[k]? with
    | none => rw [e3] at hk; cases hk
    | some p =>
      rw [e3] at hk
      cases hk
      obtain ⟨h1, h2, h3⟩ := hits p (List.mem_of_getElem? e3)
      refine ⟨nh, _, rfl, ?_⟩
      (repeat (first | refine St.go ?_ | refine R.eVar rfl ?_ | refine ⟨_, rfl, ?_⟩ | refine R.sAug rfl ?_ | refine R.vSliT rfl rfl ?_ | refine R.vIsiNo rfl ?_ | refine R.vIsiBl rfl ?_ | refine R.vIsiIn rfl ?_ | refine R.vIsiSt rfl ?_ | refine R.vIsiTu rfl ?_ | refine R.ssCons ?_ | refine R.ssNil ?_ | refine R.w_iteT ?_ | refine R.w_iteF ?_))
      refine R.w_mono (right_run h1 h2 h3 (fr.get hb id) ok hl) ?_
      rintro v S2 ⟨rfl, fr2⟩
      (repeat (first | refine St.go ?_ | refine R.eVar rfl ?_ | refine ⟨_, rfl, ?_⟩ | refine R.sAug rfl ?_ | refine R.vSliT rfl rfl ?_ | refine R.vIsiNo rfl ?_ | refine R.vIsiBl rfl ?_ | refine R.vIsiIn rfl ?_ | refine R.vIsiSt rfl ?_ | refine R.vIsiTu rfl ?_ | refine R.ssCons ?_ | refine R.ssNil ?_ | refine R.w_iteT ?_ | refine R.w_iteF ?_))
      exact ⟨fr.trans fr2, _, _, rfl⟩
  · rintro ρ S1 ⟨fr, o17, o18, rfl⟩
    refine ⟨nh, ?_⟩
    (repeat (first | refine St.go ?_ | refine R.eVar rfl ?_ | refine ⟨_, rfl, ?_⟩ | refine R.sAug rfl ?_ | refine R.vSliT rfl rfl ?_ | refine R.vIsiNo rfl ?_ | refine R.vIsiBl rfl ?_ | refine R.vIsiIn rfl ?_ | refine R.vIsiSt rfl ?_ | refine R.vIsiTu rfl ?_ | refine R.ssCons ?_ | refine R.ssNil ?_ | refine R.w_iteT ?_ | refine R.w_iteF ?_))
    refine R.w_repr (rd S1 (fr.get hb id)) ft (by decide) (by decide) hw ?_
    (repeat (first | refine St.go ?_ | refine R.eVar rfl ?_ | refine ⟨_, rfl, ?_⟩ | refine R.sAug rfl ?_ | refine R.vSliT rfl rfl ?_ | refine R.vIsiNo rfl ?_ | refine R.vIsiBl rfl ?_ | refine R.vIsiIn rfl ?_ | refine R.vIsiSt rfl ?_ | refine R.vIsiTu rfl ?_ | refine R.ssCons ?_ | refine R.ssNil ?_ | refine R.w_iteT ?_ | refine R.w_iteF ?_))
    have en : (!decide (d.shown = d.shown)) = false := by simp
    rw [en]
    (repeat (first | refine St.go ?_ | refine R.eVar rfl ?_ | refine ⟨_, rfl, ?_⟩ | refine R.sAug rfl ?_ | refine R.vSliT rfl rfl ?_ | refine R.vIsiNo rfl ?_ | refine R.vIsiBl rfl ?_ | refine R.vIsiIn rfl ?_ | refine R.vIsiSt rfl ?_ | refine R.vIsiTu rfl ?_ | refine R.ssCons ?_ | refine R.ssNil ?_ | refine R.w_iteT ?_ | refine R.w_iteF ?_))
    exact ⟨fd.grow fr, _, _, _, _, _, _, _, _, _, _, _, _, _, _, _, _, rfl⟩
end
end Lk08

end

section
set_option maxHeartbeats 0
set_option exponentiation.threshold 5000
namespace Lk08
open Ev G
open PySem (Str PyData)
section
variable {glo : Str → Option Val} {scr : List Int} {gas n : Nat} {S : Sto} {f B : Nat}
theorem round_ok (hn : 40 ≤ n) {kv : Val} {o3 o4 o5 o6 o7 o8 o9 o10 o11 o12 o13 o14 o15 o16 o17 o18 : Option Val} (fd : Feed f (B + 100000) S) :
    V (xSs (K D glo scr gas n) bRound (e19 f kv o3 o4 o5 o6 o7 o8 o9 o10 o11 o12 o13 o14 o15 o16 o17 o18)) S fun fl S' => Feed f B S' ∧ FinE f kv fl := by
  obtain ⟨m, rfl⟩ : ∃ m, n = m + 20 := ⟨n - 20, by omega⟩
  have hd : DrawC (K D glo scr gas (m + 20)) := draw_c gen (by omega)
  have hrp : ReplyC (K D glo scr gas (m + 20)) := reply_c gen (by omega)
  have hks : KindsC (K D glo scr gas (m + 20)) := kinds_c gen h_kinds (by omega)
  have hmx : MixedC (K D glo scr gas (m + 20)) := mixed_c gen h_mixed (by omega)
  unfold bRound
  (repeat (first | refine St.go ?_ | refine R.eVar rfl ?_ | refine ⟨_, rfl, ?_⟩ | refine R.sAug rfl ?_ | refine R.vSliT rfl rfl ?_ | refine R.vIsiNo rfl ?_ | refine R.vIsiBl rfl ?_ | refine R.vIsiIn rfl ?_ | refine R.vIsiSt rfl ?_ | refine R.vIsiTu rfl ?_ | refine R.ssCons ?_ | refine R.ssNil ?_ | refine R.w_iteT ?_ | refine R.w_iteF ?_))
  refine hd (B := B + 99999) fd (by decide) (by decide) fun mm S1 m0 m1 fd1 fr1 => ?_
  (repeat (first | refine St.go ?_ | refine R.eVar rfl ?_ | refine ⟨_, rfl, ?_⟩ | refine R.sAug rfl ?_ | refine R.vSliT rfl rfl ?_ | refine R.vIsiNo rfl ?_ | refine R.vIsiBl rfl ?_ | refine R.vIsiIn rfl ?_ | refine R.vIsiSt rfl ?_ | refine R.vIsiTu rfl ?_ | refine R.ssCons ?_ | refine R.ssNil ?_ | refine R.w_iteT ?_ | refine R.w_iteF ?_))
  refine hks (B := B + 99599) m0 (by omega) fd1 fun ks S2 ok hkn fd2 fr2 => ?_
  (repeat (first | refine St.go ?_ | refine R.eVar rfl ?_ | refine ⟨_, rfl, ?_⟩ | refine R.sAug rfl ?_ | refine R.vSliT rfl rfl ?_ | refine R.vIsiNo rfl ?_ | refine R.vIsiBl rfl ?_ | refine R.vIsiIn rfl ?_ | refine R.vIsiSt rfl ?_ | refine R.vIsiTu rfl ?_ | refine R.ssCons ?_ | refine R.ssNil ?_ | refine R.w_iteT ?_ | refine R.w_iteF ?_))
  have lf2 : f < S2.length := by
    obtain ⟨c, cells, a, b, t, h, _⟩ := fd2
    exact (List.getElem?_eq_some_iff.mp h).1
  have hkl := List.getElem?_concat_length (l := S2) (a := Ob.lst (kvs ks))
  have fd3 := fd2.grow (Fr.alloc (o := .lst (kvs ks)))
  have hkf : S2.length ≠ f := by omega
  have hk12 := ok.len
  have hkln : (kvs ks).length = ks.length := by unfold kvs; simp
  generalize S2.length = kl at hkl hkf
  generalize S2 ++ [Ob.lst (kvs ks)] = S3 at hkl fd3
  clear fd fr1 fr2 fd1 fd2
  refine R.vWalkL hkl ?_
  refine ⟨big (by rw [hkln]; omega), ?_⟩
  refine R.w_com (w := ⟨kvs ks, [(kl, kvs ks)]⟩) (I := fun k acc S' => k ≤ ks.length ∧ Feed f (B + 99599 - 6 * k) S' ∧ Fr (At f) S3 S' ∧ ∃ ps : Ps, acc = pv ps ∧ ps.map (·.1) = (ks.take k).map (·.1) ∧ InK ks ps) ?_ ?_ ⟨Nat.zero_le _, fd3, Fr.refl, [], rfl, rfl, (fun _ h => nomatch h)⟩
  · rintro k x acc S4 hk ⟨hk1, fd4, fr4, ps, rfl, hps, hin⟩
    have hk : (kvs ks)[k]? = some x := hk
    unfold kvs at hk
    rw [List.getElem?_map] at hk
    cases e3 : ks[k]? with
    | none => rw [e3] at hk; cases hk
    | some p =>
      rw [e3] at hk
      cases hk
      have hk2 : k < ks.length := (List.getElem?_eq_some_iff.mp e3).1
      have hp := List.mem_of_getElem? e3
      refine ⟨fun q hq => by simp only [List.mem_singleton] at hq; subst hq; exact fr4.get hkl hkf, R.tOne rfl ?_⟩
      (repeat (first | refine St.go ?_ | refine R.eVar rfl ?_ | refine ⟨_, rfl, ?_⟩ | refine R.sAug rfl ?_ | refine R.vSliT rfl rfl ?_ | refine R.vIsiNo rfl ?_ | refine R.vIsiBl rfl ?_ | refine R.vIsiIn rfl ?_ | refine R.vIsiSt rfl ?_ | refine R.vIsiTu rfl ?_ | refine R.ssCons ?_ | refine R.ssNil ?_ | refine R.w_iteT ?_ | refine R.w_iteF ?_))
      have e9 : B + 99599 - 6 * k = (B + 99599 - 6 * (k + 1)) + 6 := by omega
      rw [e9] at fd4
      refine hrp (ok.kd p hp) fd4 fun a S5 ha fd5 fr5 => ?_
      (repeat (first | refine St.go ?_ | refine R.eVar rfl ?_ | refine ⟨_, rfl, ?_⟩ | refine R.sAug rfl ?_ | refine R.vSliT rfl rfl ?_ | refine R.vIsiNo rfl ?_ | refine R.vIsiBl rfl ?_ | refine R.vIsiIn rfl ?_ | refine R.vIsiSt rfl ?_ | refine R.vIsiTu rfl ?_ | refine R.ssCons ?_ | refine R.ssNil ?_ | refine R.w_iteT ?_ | refine R.w_iteF ?_))
      refine ⟨hk2, fd5, fr4.trans fr5, ps ++ [(p.1, a)], by unfold pv; simp, ?_, fun r hr => ?_⟩
      · rw [List.take_succ, e3, List.map_append, List.map_append, hps]; rfl
      · rcases List.mem_append.mp hr with hr | hr
        · exact hin r hr
        · simp only [List.mem_singleton] at hr
          subst hr
          exact ⟨p.2, hp, ha⟩
  rintro acc S4 ⟨_, fd4, fr4, ps0, rfl, hps0, hin0⟩
  refine ⟨fun q hq => by simp only [List.mem_singleton] at hq; subst hq; exact fr4.get hkl hkf, ?_⟩
  rw [show (Walk.mk (kvs ks) [(kl, kvs ks)]).xs.length = ks.length from hkln] at fd4 hps0
  rw [List.take_length] at hps0
  have hkl4 := fr4.get hkl hkf
  have fd4 : Feed f (B + 99500) S4 := fd4.mono (by omega)
  have nd0 : (ps0.map (·.1)).Nodup := hps0 ▸ ok.nd
  have len0 : ps0.length ≤ 12 := by
    have := congrArg List.length hps0
    simp at this
    omega
  clear fr4 hkl fd3
  (repeat (first | refine St.go ?_ | refine R.eVar rfl ?_ | refine ⟨_, rfl, ?_⟩ | refine R.sAug rfl ?_ | refine R.vSliT rfl rfl ?_ | refine R.vIsiNo rfl ?_ | refine R.vIsiBl rfl ?_ | refine R.vIsiIn rfl ?_ | refine R.vIsiSt rfl ?_ | refine R.vIsiTu rfl ?_ | refine R.ssCons ?_ | refine R.ssNil ?_ | refine R.w_iteT ?_ | refine R.w_iteF ?_))
  refine hd (B := B + 99499) fd4 (by decide) (by decide) fun lack S5 l0 l1 fd5 fr5 => ?_
  have hkl5 := fr5.get hkl4 hkf
  clear fr5 hkl4 fd4
  (repeat (first | refine St.go ?_ | refine R.eVar rfl ?_ | refine ⟨_, rfl, ?_⟩ | refine R.sAug rfl ?_ | refine R.vSliT rfl rfl ?_ | refine R.vIsiNo rfl ?_ | refine R.vIsiBl rfl ?_ | refine R.vIsiIn rfl ?_ | refine R.vIsiSt rfl ?_ | refine R.vIsiTu rfl ?_ | refine R.ssCons ?_ | refine R.ssNil ?_ | refine R.w_iteT ?_ | refine R.w_iteF ?_))
  refine ⟨big (by rw [pv_len]; omega), ?_⟩
  refine R.w_com (w := ⟨pv ps0, []⟩) (I := fun k acc S' => k ≤ ps0.length ∧ Feed f (B + 99499 - k) S' ∧ Fr (At f) S5 S' ∧ ∃ qs : Ps, acc = pv qs ∧ qs.Sublist (ps0.take k)) ?_ ?_ ⟨Nat.zero_le _, fd5, Fr.refl, [], rfl, List.nil_sublist _⟩
  · rintro k x acc S6 hk ⟨hk1, fd6, fr6, qs, rfl, hqs⟩
    have hk : (pv ps0)[k]? = some x := hk
    unfold pv at hk
    rw [List.getElem?_map] at hk
    cases e3 : ps0[k]? with
    | none => rw [e3] at hk; cases hk
    | some p =>
      rw [e3] at hk
      cases hk
      have hk2 : k < ps0.length := (List.getElem?_eq_some_iff.mp e3).1
      have e9 : B + 99499 - k = (B + 99499 - (k + 1)) + 1 := by omega
      rw [e9] at fd6
      have et : ps0.take (k + 1) = ps0.take k ++ [p] := by rw [List.take_succ, e3]; rfl
      refine ⟨nh, R.tOne rfl ?_⟩
      (repeat (first | refine St.go ?_ | refine R.eVar rfl ?_ | refine ⟨_, rfl, ?_⟩ | refine R.sAug rfl ?_ | refine R.vSliT rfl rfl ?_ | refine R.vIsiNo rfl ?_ | refine R.vIsiBl rfl ?_ | refine R.vIsiIn rfl ?_ | refine R.vIsiSt rfl ?_ | refine R.vIsiTu rfl ?_ | refine R.ssCons ?_ | refine R.ssNil ?_ | refine R.w_iteT ?_ | refine R.w_iteF ?_))
      refine R.w_mono (Q := fun t S' => Feed f (B + 99499 - (k + 1)) S' ∧ Fr (At f) S6 S') ?_ ?_
      · refine R.w_ite (fun _ => ?_) (fun _ => ?_)
        · (repeat (first | refine St.go ?_ | refine R.eVar rfl ?_ | refine ⟨_, rfl, ?_⟩ | refine R.sAug rfl ?_ | refine R.vSliT rfl rfl ?_ | refine R.vIsiNo rfl ?_ | refine R.vIsiBl rfl ?_ | refine R.vIsiIn rfl ?_ | refine R.vIsiSt rfl ?_ | refine R.vIsiTu rfl ?_ | refine R.ssCons ?_ | refine R.ssNil ?_ | refine R.w_iteT ?_ | refine R.w_iteF ?_))
          exact ⟨fd6.mono (by omega), Fr.refl⟩
        · (repeat (first | refine St.go ?_ | refine R.eVar rfl ?_ | refine ⟨_, rfl, ?_⟩ | refine R.sAug rfl ?_ | refine R.vSliT rfl rfl ?_ | refine R.vIsiNo rfl ?_ | refine R.vIsiBl rfl ?_ | refine R.vIsiIn rfl ?_ | refine R.vIsiSt rfl ?_ | refine R.vIsiTu rfl ?_ | refine R.ssCons ?_ | refine R.ssNil ?_ | refine R.w_iteT ?_ | refine R.w_iteF ?_))
          refine hd.d fd6 (by omega) (by omega) fun t S7 _ _ fd7 fr7 => ?_
          (repeat (first | refine St.go ?_ | refine R.eVar rfl ?_ | refine ⟨_, rfl, ?_⟩ | refine R.sAug rfl ?_ | refine R.vSliT rfl rfl ?_ | refine R.vIsiNo rfl ?_ | refine R.vIsiBl rfl ?_ | refine R.vIsiIn rfl ?_ | refine R.vIsiSt rfl ?_ | refine R.vIsiTu rfl ?_ | refine R.ssCons ?_ | refine R.ssNil ?_ | refine R.w_iteT ?_ | refine R.w_iteF ?_))
          exact ⟨fd7, fr7⟩
      rintro t S7 ⟨fd7, fr7⟩
      cases t with
      | true =>
        (repeat (first | refine St.go ?_ | refine R.eVar rfl ?_ | refine ⟨_, rfl, ?_⟩ | refine R.sAug rfl ?_ | refine R.vSliT rfl rfl ?_ | refine R.vIsiNo rfl ?_ | refine R.vIsiBl rfl ?_ | refine R.vIsiIn rfl ?_ | refine R.vIsiSt rfl ?_ | refine R.vIsiTu rfl ?_ | refine R.ssCons ?_ | refine R.ssNil ?_ | refine R.w_iteT ?_ | refine R.w_iteF ?_))
        exact ⟨hk2, fd7, fr6.trans fr7, qs ++ [p], by unfold pv; simp, by rw [et]; exact hqs.append (List.Sublist.refl _)⟩
      | false =>
        (repeat (first | refine St.go ?_ | refine R.eVar rfl ?_ | refine ⟨_, rfl, ?_⟩ | refine R.sAug rfl ?_ | refine R.vSliT rfl rfl ?_ | refine R.vIsiNo rfl ?_ | refine R.vIsiBl rfl ?_ | refine R.vIsiIn rfl ?_ | refine R.vIsiSt rfl ?_ | refine R.vIsiTu rfl ?_ | refine R.ssCons ?_ | refine R.ssNil ?_ | refine R.w_iteT ?_ | refine R.w_iteF ?_))
        exact ⟨hk2, fd7, fr6.trans fr7, qs, rfl, by rw [et]; exact hqs.trans (List.sublist_append_left _ _)⟩
  rintro acc S6 ⟨_, fd6, fr6, qs, rfl, hqs⟩
  refine ⟨nh, ?_⟩
  rw [show (Walk.mk (pv ps0) []).xs.length = ps0.length from pv_len] at fd6 hqs
  rw [List.take_length] at hqs
  have hkl6 := fr6.get hkl5 hkf
  have fd6 : Feed f (B + 99400) S6 := fd6.mono (by omega)
  have inq : InK ks qs := hin0.sub fun p hp => hqs.subset hp
  have ndq : (qs.map (·.1)).Nodup := (hqs.map _).nodup nd0
  have lenq : qs.length ≤ 12 := Nat.le_trans hqs.length_le len0
  have lf6 : f < S6.length := by
    obtain ⟨c, cells, a, b, t, h, _⟩ := fd6
    exact (List.getElem?_eq_some_iff.mp h).1
  clear fr6 hkl5 fd5 hqs hin0 nd0 len0 hps0
  have hkl6 := (Fr.alloc (o := .lst (pv qs)) (X := F0)).get hkl6 id
  have fd6 := fd6.grow (Fr.alloc (o := .lst (pv qs)))
  (repeat (first | refine St.go ?_ | refine R.eVar rfl ?_ | refine ⟨_, rfl, ?_⟩ | refine R.sAug rfl ?_ | refine R.vSliT rfl rfl ?_ | refine R.vIsiNo rfl ?_ | refine R.vIsiBl rfl ?_ | refine R.vIsiIn rfl ?_ | refine R.vIsiSt rfl ?_ | refine R.vIsiTu rfl ?_ | refine R.ssCons ?_ | refine R.ssNil ?_ | refine R.w_iteT ?_ | refine R.w_iteF ?_))
  refine mixedL_c gen h_mixed (by omega) (B := B + 99380) (by rw [pv_len]; omega) fd6 List.getElem?_concat_length (by omega) fun us S7 hu fd7 fr7 => ?_
  obtain ⟨ps1, rfl, pm1⟩ := perm_pv hu
  have hkl7 := fr7.get hkl6 hkf
  have in1 : InK ks ps1 := inq.sub fun p hp => pm1.mem_iff.mp hp
  have nd1 : (ps1.map (·.1)).Nodup := (pm1.map _).nodup_iff.mpr ndq
  have len1 : ps1.length ≤ 12 := by rw [pm1.length_eq]; exact lenq
  clear fr7 hkl6 fd6 hu
  (repeat (first | refine St.go ?_ | refine R.eVar rfl ?_ | refine ⟨_, rfl, ?_⟩ | refine R.sAug rfl ?_ | refine R.vSliT rfl rfl ?_ | refine R.vIsiNo rfl ?_ | refine R.vIsiBl rfl ?_ | refine R.vIsiIn rfl ?_ | refine R.vIsiSt rfl ?_ | refine R.vIsiTu rfl ?_ | refine R.ssCons ?_ | refine R.ssNil ?_ | refine R.w_iteT ?_ | refine R.w_iteF ?_))
  refine hmx (B := B + 99360) (by rw [pv_len]; omega) fd7 fun us S8 hu fd8 fr8 => ?_
  obtain ⟨ps2, rfl, pm2⟩ := perm_pv hu
  have hkl8 := fr8.get hkl7 hkf
  have in2 : InK ks ps2 := in1.sub fun p hp => pm2.mem_iff.mp hp
  have nd2 : (ps2.map (·.1)).Nodup := (pm2.map _).nodup_iff.mpr nd1
  have len2 : ps2.length ≤ 12 := by rw [pm2.length_eq]; exact len1
  clear fr8 hkl7 fd7 hu
  (repeat (first | refine St.go ?_ | refine R.eVar rfl ?_ | refine ⟨_, rfl, ?_⟩ | refine R.sAug rfl ?_ | refine R.vSliT rfl rfl ?_ | refine R.vIsiNo rfl ?_ | refine R.vIsiBl rfl ?_ | refine R.vIsiIn rfl ?_ | refine R.vIsiSt rfl ?_ | refine R.vIsiTu rfl ?_ | refine R.ssCons ?_ | refine R.ssNil ?_ | refine R.w_iteT ?_ | refine R.w_iteF ?_))
  refine R.vRng (by decide) (by decide) ?_
  refine ⟨show 3 ≤ PySem.sizeLine by decide, ?_⟩
  refine three_ok (B := B + 60000) (by omega) (fd8.mono (by omega)) hkl8 ok hkf ?_ ?_ ?_ fun ts0 S9 tsn tss fd9 fr9 => ?_
  · rfl
  · rfl
  · rfl
  have hkl9 := fr9.get hkl8 hkf
  clear fr9 hkl8 fd8
  have lf9 : f < S9.length := by
    obtain ⟨c, cells, a, b, t, h, _⟩ := fd9
    exact (List.getElem?_eq_some_iff.mp h).1
  have lk9 : kl < S9.length := (List.getElem?_eq_some_iff.mp hkl9).1
  obtain ⟨t0, t1, ⟨b2, L2'⟩, rfl⟩ : ∃ a b c, ts0 = [a, b, c] := by
    match ts0, tsn with
    | [a, b, c], _ => exact ⟨a, b, c, rfl⟩
  have hb10 := List.getElem?_concat_length (l := S9) (a := Ob.lst (tvs [t0, t1, (b2, L2')]))
  have hkl10 := (Fr.alloc (o := .lst (tvs [t0, t1, (b2, L2')])) (X := F0)).get hkl9 id
  have fd10 := fd9.grow (Fr.alloc (o := .lst (tvs [t0, t1, (b2, L2')])))
  have hbf : S9.length ≠ f := by omega
  have hbk : S9.length ≠ kl := by omega
  have hbl : f < S9.length := lf9
  generalize S9.length = b at hb10 hbf hbk hbl
  generalize S9 ++ [Ob.lst (tvs [t0, t1, (b2, L2')])] = S10 at hb10 hkl10 fd10
  clear fd9 hkl9 lf9 lk9
  (repeat (first | refine St.go ?_ | refine R.eVar rfl ?_ | refine ⟨_, rfl, ?_⟩ | refine R.sAug rfl ?_ | refine R.vSliT rfl rfl ?_ | refine R.vIsiNo rfl ?_ | refine R.vIsiBl rfl ?_ | refine R.vIsiIn rfl ?_ | refine R.vIsiSt rfl ?_ | refine R.vIsiTu rfl ?_ | refine R.ssCons ?_ | refine R.ssNil ?_ | refine R.w_iteT ?_ | refine R.w_iteF ?_))
  refine R.vPow rfl ?_
  (repeat (first | refine St.go ?_ | refine R.eVar rfl ?_ | refine ⟨_, rfl, ?_⟩ | refine R.sAug rfl ?_ | refine R.vSliT rfl rfl ?_ | refine R.vIsiNo rfl ?_ | refine R.vIsiBl rfl ?_ | refine R.vIsiIn rfl ?_ | refine R.vIsiSt rfl ?_ | refine R.vIsiTu rfl ?_ | refine R.ssCons ?_ | refine R.ssNil ?_ | refine R.w_iteT ?_ | refine R.w_iteF ?_))
  refine hd (B := B + 59999) fd10 (by decide) (by decide) fun c0 S10b c00 c01 fd10b fr10b => ?_
  have c01 : c0 ≤ 1000000 := by
    have e6 : (10 : Int) ^ (6 : Int).toNat + 1 = 1000001 := by decide
    rw [e6] at c01
    omega
  (repeat (first | refine St.go ?_ | refine R.eVar rfl ?_ | refine ⟨_, rfl, ?_⟩ | refine R.sAug rfl ?_ | refine R.vSliT rfl rfl ?_ | refine R.vIsiNo rfl ?_ | refine R.vIsiBl rfl ?_ | refine R.vIsiIn rfl ?_ | refine R.vIsiSt rfl ?_ | refine R.vIsiTu rfl ?_ | refine R.ssCons ?_ | refine R.ssNil ?_ | refine R.w_iteT ?_ | refine R.w_iteF ?_))
  refine hd (B := B + 59998) fd10b (by decide) (by decide) fun c1 S11 c10 c11 fd11 fr11 => ?_
  have hb11 := fr11.get (fr10b.get hb10 hbf) hbf
  have hkl11 := fr11.get (fr10b.get hkl10 hkf) hkf
  refine R.vMul (mulOk_of (by decide) (small4 (by omega) (by omega))) ?_
  (repeat (first | refine St.go ?_ | refine R.eVar rfl ?_ | refine ⟨_, rfl, ?_⟩ | refine R.sAug rfl ?_ | refine R.vSliT rfl rfl ?_ | refine R.vIsiNo rfl ?_ | refine R.vIsiBl rfl ?_ | refine R.vIsiIn rfl ?_ | refine R.vIsiSt rfl ?_ | refine R.vIsiTu rfl ?_ | refine R.ssCons ?_ | refine R.ssNil ?_ | refine R.w_iteT ?_ | refine R.w_iteF ?_))
  refine R.vMul (mulOk_of (small4 (by omega) (by omega)) (small4 (by omega) (by omega))) ?_
  (repeat (first | refine St.go ?_ | refine R.eVar rfl ?_ | refine ⟨_, rfl, ?_⟩ | refine R.sAug rfl ?_ | refine R.vSliT rfl rfl ?_ | refine R.vIsiNo rfl ?_ | refine R.vIsiBl rfl ?_ | refine R.vIsiIn rfl ?_ | refine R.vIsiSt rfl ?_ | refine R.vIsiTu rfl ?_ | refine R.ssCons ?_ | refine R.ssNil ?_ | refine R.w_iteT ?_ | refine R.w_iteF ?_))
  refine R.vIdxL hb11 rfl ?_
  (repeat (first | refine St.go ?_ | refine R.eVar rfl ?_ | refine ⟨_, rfl, ?_⟩ | refine R.sAug rfl ?_ | refine R.vSliT rfl rfl ?_ | refine R.vIsiNo rfl ?_ | refine R.vIsiBl rfl ?_ | refine R.vIsiIn rfl ?_ | refine R.vIsiSt rfl ?_ | refine R.vIsiTu rfl ?_ | refine R.ssCons ?_ | refine R.ssNil ?_ | refine R.w_iteT ?_ | refine R.w_iteF ?_))
  refine R.vIdxT rfl ?_
  (repeat (first | refine St.go ?_ | refine R.eVar rfl ?_ | refine ⟨_, rfl, ?_⟩ | refine R.sAug rfl ?_ | refine R.vSliT rfl rfl ?_ | refine R.vIsiNo rfl ?_ | refine R.vIsiBl rfl ?_ | refine R.vIsiIn rfl ?_ | refine R.vIsiSt rfl ?_ | refine R.vIsiTu rfl ?_ | refine R.ssCons ?_ | refine R.ssNil ?_ | refine R.w_iteT ?_ | refine R.w_iteF ?_))
  refine R.vSetL hb11 rfl ?_
  have hcb : -1000000 ≤ c0 * (1 - 2 * c1) ∧ c0 * (1 - 2 * c1) ≤ 1000000 := by
    have : c1 = 0 ∨ c1 = 1 := by omega
    rcases this with rfl | rfl <;> omega
  generalize c0 * (1 - 2 * c1) = bb at hcb
  have hb12 : (S11.set b (.lst (tvs [t0, t1, (bb, L2')])))[b]? = some (.lst (tvs [t0, t1, (bb, L2')])) := List.getElem?_set_self (List.getElem?_eq_some_iff.mp hb11).1
  have fs : Fr (fun i => i = b) S11 (S11.set b (.lst (tvs [t0, t1, (bb, L2')]))) := Fr.set rfl
  have fd12 := fd11.far fs hbl
  have hkl12 := fs.get hkl11 (fun z => hbk z.symm)
  show aft _ _ _ _ (S11.set b (.lst (tvs [t0, t1, (bb, L2')])))
  have hslok : ∀ p ∈ [t0, t1, (bb, L2')], TOk (T ks) 13 p ∧ PF 21 240800 (tv p.1 p.2) := by
    intro p hp
    simp only [List.mem_cons, List.not_mem_nil, or_false] at hp
    rcases hp with rfl | rfl | rfl
    · have := tss p (by simp)
      exact ⟨this.1, this.2.mono (by decide) (by decide)⟩
    · have := tss p (by simp)
      exact ⟨this.1, this.2.mono (by decide) (by decide)⟩
    · have := tss (b2, L2') (by simp)
      exact ⟨⟨this.1.ok, this.1.len⟩, (PF.tup (PFs.cons ((PF.int (small63 hcb.1 hcb.2)).mono (k' := 20) (by decide) (Nat.le_refl _)) (PFs.cons (pf_snd this.2) PFs.nil))).mono (by decide) (by decide)⟩
  generalize hsl : [t0, t1, (bb, L2')] = ts at hb12 hslok
  have hsll : ts.length = 3 := by rw [← hsl]; rfl
  rw [hsl] at fd12 hkl12
  generalize S11.set b (Ob.lst (tvs ts)) = S12 at hb12 fd12 hkl12
  have fd12 : Feed f (B + 20000) S12 := fd12.mono (by omega)
  clear fs fd11 hb11 hkl11 fd10 hkl10 hb10 hsl tss fr10b fr11 fd10b
  (repeat (first | refine St.go ?_ | refine R.eVar rfl ?_ | refine ⟨_, rfl, ?_⟩ | refine R.sAug rfl ?_ | refine R.vSliT rfl rfl ?_ | refine R.vIsiNo rfl ?_ | refine R.vIsiBl rfl ?_ | refine R.vIsiIn rfl ?_ | refine R.vIsiSt rfl ?_ | refine R.vIsiTu rfl ?_ | refine R.ssCons ?_ | refine R.ssNil ?_ | refine R.w_iteT ?_ | refine R.w_iteF ?_))
  refine hd.d (B := B + 19999) fd12 (by omega) (by rw [pv_len]; omega) fun at_ S13 a0 a1 fd13 fr13 => ?_
  have hkl13 := fr13.get hkl12 hkf
  have hb13 := fr13.get hb12 hbf
  clear fr13 hkl12 hb12 fd12
  (repeat (first | refine St.go ?_ | refine R.eVar rfl ?_ | refine ⟨_, rfl, ?_⟩ | refine R.sAug rfl ?_ | refine R.vSliT rfl rfl ?_ | refine R.vIsiNo rfl ?_ | refine R.vIsiBl rfl ?_ | refine R.vIsiIn rfl ?_ | refine R.vIsiSt rfl ?_ | refine R.vIsiTu rfl ?_ | refine R.ssCons ?_ | refine R.ssNil ?_ | refine R.w_iteT ?_ | refine R.w_iteF ?_))
  rw [pv_cut1 a0, pv_cut2 (by omega)]
  refine R.vAddT (big (by rw [pv_len, pv_len, List.length_take, List.length_drop]; omega)) ?_
  rw [pv_app]
  have hle : (ps1.take at_.toNat ++ ps1.drop (at_ + 1).toNat).Sublist ps1 := by
    have e : (at_ + 1).toNat = at_.toNat + 1 := by omega
    rw [e]
    have h := (List.Sublist.refl (ps1.take at_.toNat)).append ((List.drop_sublist 1 (ps1.drop at_.toNat)))
    rw [List.take_append_drop, List.drop_drop] at h
    exact h
  generalize ps1.take at_.toNat ++ ps1.drop (at_ + 1).toNat = le at hle
  have in3 : InK ks le := in1.sub fun p hp => hle.subset hp
  have nd3 : (le.map (·.1)).Nodup := (hle.map _).nodup nd1
  have len3 : le.length ≤ 12 := Nat.le_trans hle.length_le len1
  (repeat (first | refine St.go ?_ | refine R.eVar rfl ?_ | refine ⟨_, rfl, ?_⟩ | refine R.sAug rfl ?_ | refine R.vSliT rfl rfl ?_ | refine R.vIsiNo rfl ?_ | refine R.vIsiBl rfl ?_ | refine R.vIsiIn rfl ?_ | refine R.vIsiSt rfl ?_ | refine R.vIsiTu rfl ?_ | refine R.ssCons ?_ | refine R.ssNil ?_ | refine R.w_iteT ?_ | refine R.w_iteF ?_))
  refine ⟨big (by rw [pv_len]; omega), ?_⟩
  refine R.w_com (w := ⟨pv ps1, []⟩) (I := fun k acc S' => k ≤ ps1.length ∧ Feed f (B + 19999 - 6 * k) S' ∧ Fr (At f) S13 S' ∧ ∃ qs : Ps, acc = pv qs ∧ qs.map (·.1) = (ps1.take k).map (·.1) ∧ InK ks qs) ?_ ?_ ⟨Nat.zero_le _, fd13, Fr.refl, [], rfl, rfl, (fun _ h => nomatch h)⟩
  · rintro k x acc S14 hk ⟨hk1, fd14, fr14, qs, rfl, hqs, hqin⟩
    have hk : (pv ps1)[k]? = some x := hk
    unfold pv at hk
    rw [List.getElem?_map] at hk
    cases e3 : ps1[k]? with
    | none => rw [e3] at hk; cases hk
    | some p =>
      rw [e3] at hk
      cases hk
      have hk2 : k < ps1.length := (List.getElem?_eq_some_iff.mp e3).1
      obtain ⟨kd, hkd, hka⟩ := in1 p (List.mem_of_getElem? e3)
      have hkl14 := fr14.get hkl13 hkf
      have e9 : B + 19999 - 6 * k = (B + 19999 - 6 * (k + 1)) + 6 := by omega
      rw [e9] at fd14
      refine ⟨nh, R.tOne rfl ?_⟩
      (repeat (first | refine St.go ?_ | refine R.eVar rfl ?_ | refine ⟨_, rfl, ?_⟩ | refine R.sAug rfl ?_ | refine R.vSliT rfl rfl ?_ | refine R.vIsiNo rfl ?_ | refine R.vIsiBl rfl ?_ | refine R.vIsiIn rfl ?_ | refine R.vIsiSt rfl ?_ | refine R.vIsiTu rfl ?_ | refine R.ssCons ?_ | refine R.ssNil ?_ | refine R.w_iteT ?_ | refine R.w_iteF ?_))
      refine R.vSeqL hkl14 ?_
      (repeat (first | refine St.go ?_ | refine R.eVar rfl ?_ | refine ⟨_, rfl, ?_⟩ | refine R.sAug rfl ?_ | refine R.vSliT rfl rfl ?_ | refine R.vIsiNo rfl ?_ | refine R.vIsiBl rfl ?_ | refine R.vIsiIn rfl ?_ | refine R.vIsiSt rfl ?_ | refine R.vIsiTu rfl ?_ | refine R.ssCons ?_ | refine R.ssNil ?_ | refine R.w_iteT ?_ | refine R.w_iteF ?_))
      refine vDictK ok.nd ?_
      (repeat (first | refine St.go ?_ | refine R.eVar rfl ?_ | refine ⟨_, rfl, ?_⟩ | refine R.sAug rfl ?_ | refine R.vSliT rfl rfl ?_ | refine R.vIsiNo rfl ?_ | refine R.vIsiBl rfl ?_ | refine R.vIsiIn rfl ?_ | refine R.vIsiSt rfl ?_ | refine R.vIsiTu rfl ?_ | refine R.ssCons ?_ | refine R.ssNil ?_ | refine R.w_iteT ?_ | refine R.w_iteF ?_))
      refine R.vIdxD (v := kd.v) List.getElem?_concat_length (by rw [get_str, find_nd ok.nd hkd]; rfl) ?_
      (repeat (first | refine St.go ?_ | refine R.eVar rfl ?_ | refine ⟨_, rfl, ?_⟩ | refine R.sAug rfl ?_ | refine R.vSliT rfl rfl ?_ | refine R.vIsiNo rfl ?_ | refine R.vIsiBl rfl ?_ | refine R.vIsiIn rfl ?_ | refine R.vIsiSt rfl ?_ | refine R.vIsiTu rfl ?_ | refine R.ssCons ?_ | refine R.ssNil ?_ | refine R.w_iteT ?_ | refine R.w_iteF ?_))
      refine hrp (ok.kd _ hkd) (fd14.grow Fr.alloc) fun a S15 ha fd15 fr15 => ?_
      (repeat (first | refine St.go ?_ | refine R.eVar rfl ?_ | refine ⟨_, rfl, ?_⟩ | refine R.sAug rfl ?_ | refine R.vSliT rfl rfl ?_ | refine R.vIsiNo rfl ?_ | refine R.vIsiBl rfl ?_ | refine R.vIsiIn rfl ?_ | refine R.vIsiSt rfl ?_ | refine R.vIsiTu rfl ?_ | refine R.ssCons ?_ | refine R.ssNil ?_ | refine R.w_iteT ?_ | refine R.w_iteF ?_))
      refine ⟨hk2, fd15, fr14.trans (Fr.alloc.trans fr15), qs ++ [(p.1, a)], by unfold pv; simp, ?_, fun r hr => ?_⟩
      · rw [List.take_succ, e3, List.map_append, List.map_append, hqs]; rfl
      · rcases List.mem_append.mp hr with hr | hr
        · exact hqin r hr
        · simp only [List.mem_singleton] at hr
          subst hr
          exact ⟨kd, hkd, ha⟩
  rintro acc S14 ⟨_, fd14, fr14, an, rfl, hans, in4⟩
  refine ⟨nh, ?_⟩
  rw [show (Walk.mk (pv ps1) []).xs.length = ps1.length from pv_len] at fd14 hans
  rw [List.take_length] at hans
  have hb14 := fr14.get hb13 hbf
  have nd4 : (an.map (·.1)).Nodup := hans ▸ nd1
  have len4 : an.length ≤ 12 := by
    have := congrArg List.length hans
    simp at this
    omega
  have fd14 : Feed f B S14 := fd14.mono (by omega)
  clear fr14 hb13 hkl13 fd13
  -- what is shown
  have psl : PFs 23 2400000 (tvs ts) := (PFs.of_all (k := 21) (w := 240800) fun v hv => by
    obtain ⟨s, hs, rfl⟩ := List.mem_map.mp hv
    exact (hslok s hs).2).mono (by decide) (by unfold tvs; rw [List.length_map, hsll]; decide)
  have f1 := in1.pf ok len1
  have f2 := in2.pf ok len2
  have f3 := in3.pf ok len3
  have rdAll : ∀ S', S'[b]? = some (.lst (tvs ts)) → Rd (fun _ => False) S' (.tup [.tup (pv ps1), .tup (pv ps2), .tup (pv le), .loc b]) (.tuple [dOf (.tup (pv ps1)), dOf (.tup (pv ps2)), dOf (.tup (pv le)), .list (dOfs (tvs ts))]) := fun S' h =>
    .tup (.cons (f1.rd _ _) (.cons (f2.rd _ _) (.cons (f3.rd _ _) (.cons (.lst h id (psl.rd _ _)) .nil))))
  have ftAll : Fit 25 2700000 64 (.tuple [dOf (.tup (pv ps1)), dOf (.tup (pv ps2)), dOf (.tup (pv le)), .list (dOfs (tvs ts))]) :=
    (Fit.tup (Fits.cons (f1.ft.mono (k' := 24) (by decide) (Nat.le_refl _) (Nat.le_refl _)) (Fits.cons (f2.ft.mono (by decide) (Nat.le_refl _) (Nat.le_refl _)) (Fits.cons (f3.ft.mono (by decide) (Nat.le_refl _) (Nat.le_refl _)) (Fits.cons (Fit.lst psl.ft) (Fits.nil (w := 0))))))).mono (by decide) (by decide) (Nat.le_refl _)
  (repeat (first | refine St.go ?_ | refine R.eVar rfl ?_ | refine ⟨_, rfl, ?_⟩ | refine R.sAug rfl ?_ | refine R.vSliT rfl rfl ?_ | refine R.vIsiNo rfl ?_ | refine R.vIsiBl rfl ?_ | refine R.vIsiIn rfl ?_ | refine R.vIsiSt rfl ?_ | refine R.vIsiTu rfl ?_ | refine R.ssCons ?_ | refine R.ssNil ?_ | refine R.w_iteT ?_ | refine R.w_iteF ?_))
  refine R.w_repr (rdAll S14 hb14) ftAll (by decide) (by decide) (by decide) ?_
  refine ⟨_, rfl, R.aNx ?_⟩
  exact tail_ok (m := m + 17) (T := T ks) fd14 hb14 (in1.ok ok nd1 len1) (in2.ok ok nd2 len2) (in3.ok ok nd3 len3) (in4.ok ok nd4 len4) pm2 (fun s hs => ⟨fun q hq => ⟨((hslok s hs).1.ok q hq).1, by have := ((hslok s hs).1.ok q hq).2; omega⟩, (hslok s hs).1.len⟩) hsll rdAll ftAll (by decide)
end
end Lk08

end

section
set_option maxHeartbeats 1000000
set_option exponentiation.threshold 5000
namespace Lk08
open Ev G
open PySem (Str PyData)
section
variable {glo : Str → Option Val} {scr : List Int} {gas : Nat}
theorem law_eq : Hk08.f_law.body = .cons (.set (.nam 1) (.call "_law_feed" (.cons (.var 0) .nil))) (.cons (.for_ (.nam 2) (.rng1 (.int 3)) bRound) (.cons (.ret (.call "_law_by_hand" .nil)) .nil)) := rfl
theorem law_run : V (xSs (K D glo scr gas 60) Hk08.f_law.body (start 19 [.scr])) [] (ret fun v _ => v = .bl true) := by
  rw [law_eq]
  (repeat (first | refine St.go ?_ | refine R.eVar rfl ?_ | refine ⟨_, rfl, ?_⟩ | refine R.sAug rfl ?_ | refine R.vSliT rfl rfl ?_ | refine R.vIsiNo rfl ?_ | refine R.vIsiBl rfl ?_ | refine R.vIsiIn rfl ?_ | refine R.vIsiSt rfl ?_ | refine R.vIsiTu rfl ?_ | refine R.ssCons ?_ | refine R.ssNil ?_ | refine R.w_iteT ?_ | refine R.w_iteF ?_))
  refine call_at h_feed rfl (feed_ok fun S1 g _ _ fd => ?_)
  (repeat (first | refine St.go ?_ | refine R.eVar rfl ?_ | refine ⟨_, rfl, ?_⟩ | refine R.sAug rfl ?_ | refine R.vSliT rfl rfl ?_ | refine R.vIsiNo rfl ?_ | refine R.vIsiBl rfl ?_ | refine R.vIsiIn rfl ?_ | refine R.vIsiSt rfl ?_ | refine R.vIsiTu rfl ?_ | refine R.ssCons ?_ | refine R.ssNil ?_ | refine R.w_iteT ?_ | refine R.w_iteF ?_))
  refine R.vRng (by decide) (by decide) ?_
  refine R.w_for (I := fun k ρ S' => k ≤ 3 ∧ Feed g (1000000000 - 100000 * k) S' ∧ ∃ kv o3 o4 o5 o6 o7 o8 o9 o10 o11 o12 o13 o14 o15 o16 o17 o18, ρ = ([some .scr, some (.loc g), kv, o3, o4, o5, o6, o7, o8, o9, o10, o11, o12, o13, o14, o15, o16, o17, o18] : Env)) ?_ ?_ ⟨by omega, fd, _, _, _, _, _, _, _, _, _, _, _, _, _, _, _, _, _, rfl⟩
  · rintro k x ρ S2 hk ⟨hk1, fd2, kv, o3, o4, o5, o6, o7, o8, o9, o10, o11, o12, o13, o14, o15, o16, o17, o18, rfl⟩
    have hk2 : k < 3 := by
      have := (List.getElem?_eq_some_iff.mp hk).1
      simpa using this
    have e9 : 1000000000 - 100000 * k = (1000000000 - 100000 * (k + 1)) + 100000 := by omega
    rw [e9] at fd2
    refine ⟨nh, _, rfl, ?_⟩
    refine R.w_mono (round_ok (kv := x) (by decide) fd2) ?_
    rintro fl S3 ⟨fd3, p3, p4, p5, p6, p7, p8, p9, p10, p11, p12, p13, p14, p15, p16, p17, p18, rfl⟩
    exact ⟨hk2, fd3, _, _, _, _, _, _, _, _, _, _, _, _, _, _, _, _, _, rfl⟩
  · rintro ρ S2 ⟨hk1, fd2, kv, o3, o4, o5, o6, o7, o8, o9, o10, o11, o12, o13, o14, o15, o16, o17, o18, rfl⟩
    refine ⟨nh, ?_⟩
    (repeat (first | refine St.go ?_ | refine R.eVar rfl ?_ | refine ⟨_, rfl, ?_⟩ | refine R.sAug rfl ?_ | refine R.vSliT rfl rfl ?_ | refine R.vIsiNo rfl ?_ | refine R.vIsiBl rfl ?_ | refine R.vIsiIn rfl ?_ | refine R.vIsiSt rfl ?_ | refine R.vIsiTu rfl ?_ | refine R.ssCons ?_ | refine R.ssNil ?_ | refine R.w_iteT ?_ | refine R.w_iteF ?_))
    refine R.w_mono (hand_run (m := 59) (by decide)) ?_
    rintro v S3 rfl
    (repeat (first | refine St.go ?_ | refine R.eVar rfl ?_ | refine ⟨_, rfl, ?_⟩ | refine R.sAug rfl ?_ | refine R.vSliT rfl rfl ?_ | refine R.vIsiNo rfl ?_ | refine R.vIsiBl rfl ?_ | refine R.vIsiIn rfl ?_ | refine R.vIsiSt rfl ?_ | refine R.vIsiTu rfl ?_ | refine R.ssCons ?_ | refine R.ssNil ?_ | refine R.w_iteT ?_ | refine R.w_iteF ?_))
    rfl
theorem holds : ∃ S', sem Hk08.fns (gloOf Hk08.cons) scr 0 61 "law" [.scr] [] = .ok (.bl true) S' := by
  have h : V (xSem Hk08.fns (gloOf Hk08.cons) scr 0 61 "law" [.scr]) [] fun v _ => v = .bl true := R.w_sem (f := Hk08.f_law) (by kernel_rfl) rfl law_run
  unfold xSem at h
  obtain ⟨a, S', e, rfl⟩ := R.ofV h
  exact ⟨S', e⟩
end
end Lk08
theorem PySem.Challenge.cw_askfolds_k08_terms_worked_out_holds : PySem.Challenge.rw_askfolds_k08_terms_worked_out.Holds :=
  Hk08.end_ (gas := 0) (n := 61) ⟨rfl, by decide, by decide⟩ fun _ _ _ => Lk08.holds

end
