import PyProof.Rows.All
import Wide.All
import OpenK.AllK
import Wide.FinOn
import PyProof.ReprRoads
import HandS.ForMost
import HandS.Walk
import HandS.Flow
import HandS.Style
import HandS.Wide
import HandS.Zip
import HandS.TupAny
import HandS.TupMul
import HandS.Conv
import HandS.SortInts
import HandS.IsInst
import HandS.Strs
import HandS.ExcOwn
import HandS.EndBits
import HandS.Words
import HandS.Deep
import HandS.NoneIn
import PyProof.ReprLen
import HandS.Star
import HandS.SetFor
import PyProof.Rows.SortShellAny
import HandS.ExcInit
import HandS.ExcField
import HandS.ExcIs
import KE.KExcIs
import PyProof.ZipIter
import KE.GoesMore
import KE.GoesEnum
import KE.GoesZip
import HandS.DictTup
import HandS.SortOrd
import HandS.More
import PyProof.EqKinds
import PyProof.FactsAll.tuple_2
import HandS.Defaults
import HandS.WideBits
import PySem.Challenge.RW_blockturns_k42_exchanges_counted
set_option Elab.async false
set_option linter.all false
set_option maxRecDepth 100000
set_option maxHeartbeats 8000000
set_option autoImplicit false
set_option synthInstance.maxHeartbeats 2000000
set_option synthInstance.maxSize 4000
/-! Mp0: rules of the hand layer's own kind that it lacks: tuples whose object is known, sum and index of a tuple, t[::-1]. -/
namespace HT
open PySem PySem.Spec PyProof.Rows L2
section
variable {prog : Program} {w : World} {A : Around} {E : Value → Shared → Prop} {s : Shared}
theorem sliceApplied_rev {sl : Addr} {vl vu vs : Value} {n : Nat} {Q : Int × Int × Nat → Shared → Prop} (hs : s.heap.IsSliceOf sl vl vu vs) (pl : IsPart vl none) (pu : IsPart vu none) (ps : IsPart vs (some (-1)))
    (h : Q ((n : Int) - 1, -1, n) s) : wpAny (model prog w) A (Builtin.Slice.sliceApplied (.ref sl) (pure (n : Int))) Q E s := by
  obtain ⟨os, hos, hcs, hds⟩ := id hs
  unfold Builtin.Slice.sliceApplied Builtin.Slice.sliceFields
  refine wpAny_bind (wpAny_bind (wpAny_field hos hds (x := vl) rfl (wpAny_bind (wpAny_field hos hds (x := vu) rfl (wpAny_bind (wpAny_field hos hds (x := vs) rfl (wpAny_pure ?_)))))))
  refine wpAny_bind (slicePart_ ps ?_)
  show wpAny _ _ (if ((-1 : Int) == 0) = true then _ else _) _ _ s
  rw [if_neg (by decide)]
  refine wpAny_bind (slicePart_ pl (wpAny_bind (slicePart_ pu (wpAny_bind (wpAny_pure ?_)))))
  have e : Builtin.Slice.sliceAdjust none none (-1) (n : Int) = ((n : Int) - 1, -1) := rfl
  show wpAny _ _ (match Builtin.Slice.sliceAdjust none none (-1) (n : Int) with | (lo, hi) => pure (lo, (-1 : Int), Builtin.Slice.slicePlaces lo hi (-1))) _ _ s
  rw [e]
  have e2 : Builtin.Slice.slicePlaces ((n : Int) - 1) (-1) (-1) = n := by
    unfold Builtin.Slice.slicePlaces
    have h1 : ¬ ((-1 : Int) > 0) := by omega
    simp only [h1, if_false]
    split <;> simp <;> omega
  show wpAny _ _ (pure ((n : Int) - 1, (-1 : Int), Builtin.Slice.slicePlaces ((n : Int) - 1) (-1) (-1))) _ _ s
  rw [e2]
  exact wpAny_pure h
theorem pick_rev (xs : Array Value) : ((List.range xs.size).filterMap fun (m : Nat) => xs[(((xs.size : Int) - 1) + (m : Int) * (-1)).toNat]?).toArray = xs.toList.reverse.toArray := by
  congr 1
  apply List.ext_getElem?
  intro i
  obtain ⟨l⟩ := xs
  simp only [List.size_toArray, List.getElem?_toArray]
  have key : (List.range l.length).filterMap (fun (m : Nat) => l[(((l.length : Int) - 1) + (m : Int) * (-1)).toNat]?) = l.reverse := by
    have e : (List.range l.length).filterMap (fun (m : Nat) => l[(((l.length : Int) - 1) + (m : Int) * (-1)).toNat]?) = (List.range l.length).filterMap (fun (m : Nat) => l.reverse[m]?) := by
      have hcg : ∀ (q : List Nat) (f g : Nat → Option Value), (∀ m ∈ q, f m = g m) → q.filterMap f = q.filterMap g := by
        intro q f g
        induction q with
        | nil => intro _; rfl
        | cons x q ih =>
          intro h
          rw [List.filterMap_cons, List.filterMap_cons, h x List.mem_cons_self, ih fun m hm => h m (List.mem_cons_of_mem _ hm)]
      refine hcg _ _ _ fun m hm => ?_
      have hm := List.mem_range.mp hm
      rw [List.getElem?_reverse hm]
      congr 1
      omega
    rw [e]
    have h2 : ∀ (r : List Value), (List.range r.length).filterMap (fun (m : Nat) => r[m]?) = r := by
      intro r
      induction r with
      | nil => rfl
      | cons x r ih =>
        rw [List.length_cons, List.range_succ_eq_map, List.filterMap_cons]
        simp only [List.getElem?_cons_zero, List.filterMap_map]
        rw [show ((fun (m : Nat) => (x :: r)[m]?) ∘ Nat.succ) = fun (m : Nat) => r[m]? from rfl, ih]
    have := h2 l.reverse
    rw [List.length_reverse] at this
    exact this
  rw [key]
theorem getItem_tuple_rev {t sl : Addr} {items : Array Value} {vl vu vs : Value} {Q : Value → Shared → Prop} (ht : IsTup s.heap t items) (hs : s.heap.IsSliceOf sl vl vu vs) (pl : IsPart vl none) (pu : IsPart vu none) (ps : IsPart vs (some (-1)))
    (h : Q (.ref s.heap.objs.size) { s with heap := s.heap.push { cls := .type "tuple", data := .seq items.toList.reverse.toArray } })
    (hsz : items.size ≤ sizeLine) : wpAny (model prog w) A (getItem (.ref t) (.ref sl)) Q E s := by
  have htake : sizeOk (.seq items.toList.reverse.toArray) := by
    show items.toList.reverse.toArray.size ≤ sizeLine
    rw [List.size_toArray, List.length_reverse, Array.length_toList]
    exact hsz
  obtain ⟨os, hos, hcs, hds⟩ := id hs
  have hTs : s.TypeIs (.ref sl) "slice" := ⟨os, hos, hcs⟩
  unfold getItem
  try with_reducible refine wpAny_holding ?_
  first | refine wpAny_bind (wpAny_pure ?_) | skip
  refine wpAny_bind (wpAny_sequenceKey ht.typeIs (by decide) ?_)
  refine wpAny_bind (wpAny_callSpecial?_slot (name := Str.ofString "__getitem__") ht.typeIs PyProof.Rows.slot_tuple_getitem
    (wpAny_call_entry PyProof.Rows.slot_tuple_getitem ht.typeIs entry_tuple_getitem ?_ (args_tuple_getitem _ _)))
  show wpAny _ _ (Builtin.Tuple.tupleItemsOf (.ref t) >>= _) _ _ s
  refine wpAny_bind (tupleItemsOf_ ht ?_)
  refine wpAny_bind (wpAny_typeOf hTs ?_)
  rw [if_pos (by decide)]
  refine wpAny_bind (sliceApplied_rev hs pl pu ps ?_)
  have hno : ¬ ((((items.size : Int) - 1) == 0 && (-1 : Int) == 1 && items.size == items.size) = true) := by
    intro q
    rw [Bool.and_eq_true, Bool.and_eq_true] at q
    exact absurd q.1.2 (by decide)
  show wpAny _ _ (if (((items.size : Int) - 1) == 0 && (-1 : Int) == 1 && items.size == items.size) = true then _ else _) _ _ s
  rw [if_neg hno, pick_rev]
  first
    | exact wpAny_bind (m := Builtin.Tuple.tupleExact _) (wpAny_newObj_type (wpAny_pure ⟨_, rfl, wpAny_pure h⟩) htake)
    | exact wpAny_bind (m := Builtin.Tuple.tupleExact _) (wpAny_newObj_type (wpAny_bind (wpAny_pure (wpAny_pure ⟨_, rfl, wpAny_pure h⟩))) htake)
    | exact wpAny_bind (wpAny_bind (m := Builtin.Tuple.tupleExact _) (wpAny_newObj_type (wpAny_pure (wpAny_pure ⟨_, rfl, wpAny_pure h⟩)) htake))
    | exact wpAny_bind (wpAny_bind (m := Builtin.Tuple.tupleExact _) (wpAny_newObj_type (wpAny_pure ⟨_, rfl, wpAny_pure h⟩) htake))
end
end HT
namespace Mp
open PySem PySem.Spec PyProof.Rows L2
/-- a tuple that is read, known to have no dict -/
def SqF (K : PySem.W.Frag) (F : Hp) (a : Addr) (vs : List V) : Prop :=
  (∃ o : Obj, F a = some (.frz o (.tup vs)) ∧ o.dict = none) ∨
    ∃ (o : Obj) (its : Array Value) (n : Nat), K.lookup a = some o ∧ o.cls = .type "tuple" ∧ o.dict = none ∧ o.data = .seq its n ∧ its.size ≤ sizeLine ∧ Vals vs its.toList
theorem SqF.t {K : PySem.W.Frag} {F : Hp} {a : Addr} {vs : List V} (h : SqF K F a vs) : SqT K F a vs := by
  rcases h with ⟨o, h, _⟩ | ⟨o, its, n, h1, h2, _, h3, h4, h5⟩
  · exact .inl (.inr ⟨o, h⟩)
  · exact .inr ⟨o, its, n, h1, h2, h3, h4, h5⟩
theorem SqF.same {K : PySem.W.Frag} {F G : Hp} (e : Same F G) {a : Addr} {vs : List V} (h : SqF K F a vs) : SqF K G a vs := by
  rcases h with ⟨o, h, d⟩ | h
  · exact .inl ⟨o, e _ _ h, d⟩
  · exact .inr h
section
variable {X : Cx} {es : List Expr} {e a : Expr} {t : TA} {pos : Pos}
/-- what a new tuple asks -/
abbrev NewT (H : Hp) (xs : List V) (Q : VK) : Prop := ∀ (p : Addr) (o : Obj), H p = none → o.dict = none → Q (.ref p) (upd H p (.frz o (.tup xs)))
def tTupF (t : TA) : TE := fun σ H Q => t σ H fun xs H1 => xs.length ≤ sizeLine ∧ NewT H1 xs Q
theorem pe_tupF {x1 : Nat} (h : PA X es t) : PE X (.Tuple es x1 pos) (tTupF t) := by
  refine ⟨fun pins s σ H Q I hq => ?_⟩
  refine wpAny_Tuple_spliced (thn (h.run pos pins s σ H _ I hq) fun us s1 ⟨xs, H1, I1, r, z, q⟩ => ⟨by rw [← r.length]; exact z, ?_⟩)
  have hf : H1 s1.heap.objs.size = none := I1.hok.fresh (Nat.le_refl _)
  exact ⟨.ref s1.heap.objs.size, _, I1.laid (t' := s1.toks) (o := .frz { cls := .type "tuple", data := .seq us.toArray } (.tup xs)) (fun b u e => Heap.get?_push_of_some _ e) (Nat.le_refl _) ⟨Heap.get?_push_size _ rfl, z, us, r, ⟨_, Heap.get?_push_size _ rfl, rfl, _, rfl⟩⟩, rfl, q _ _ hf rfl⟩
theorem call_tupleF : CallR X (.type "tuple") (fun xs H Q => ∃ p ys, xs = [.ref p] ∧ ((SqL X.K H p ys ∧ NewT H ys Q) ∨ (SqT X.K H p ys ∧ Q (.ref p) H))) := by
  intro pins s σ H xs us Q I r h
  obtain ⟨p, ys, rfl, h⟩ := h
  obtain ⟨u, rfl, rx⟩ := vals1 r
  cases rx
  rcases h with ⟨hq, q⟩ | ⟨hq, q⟩
  · obtain ⟨its, r', pl, hz⟩ := I.list hq
    have hlen := r'.length
    refine call_tuple_list pl.isList (fun h' kp => ?_) (by simp only [List.size_toArray] <;> omega)
    have I1 : Inv X pins σ H { s with heap := h' } := I.kept (t' := s.toks) kp
    have I2 : Inv X pins σ (upd H h'.objs.size (.frz { cls := .type "tuple", data := .seq its.toArray } (.tup ys))) { s with heap := h'.push { cls := .type "tuple", data := .seq its.toArray } } :=
      I1.laid (t' := s.toks) (fun b o e => Heap.get?_push_of_some _ e) (Nat.le_refl _) ⟨Heap.get?_push_size _ rfl, hz, its, r', IsTup.new _ _⟩
    exact ⟨.ref h'.objs.size, _, I2, rfl, q _ _ (I1.hok.fresh (Nat.le_refl _)) rfl⟩
  · obtain ⟨its, r', pl, hz⟩ := I.tuple hq
    exact call_tuple_same pl ⟨.ref p, H, I, rfl, q⟩
def rCatF (K : PySem.W.Frag) : R2 := fun x y H Q => ∃ a b xs ys, x = .ref a ∧ y = .ref b ∧ SqT K H a xs ∧ SqT K H b ys ∧ xs.length + ys.length ≤ sizeLine ∧
  (xs = [] → Q (.ref b) H) ∧ (xs ≠ [] → ys = [] → Q (.ref a) H) ∧ (xs ≠ [] → ys ≠ [] → NewT H (xs ++ ys) Q)
theorem op_catF : OpR X (binaryOp .Add) (rCatF X.K) := by
  intro pins s σ H x y v u Q I rx ry h
  obtain ⟨a, b, xs, ys, rfl, rfl, ha, hb, hz, q0, q1, q2⟩ := h
  cases rx
  cases ry
  obtain ⟨its, r1, p1, _⟩ := I.tuple ha
  obtain ⟨its2, r2, p2, _⟩ := I.tuple hb
  by_cases hx : xs = []
  · subst hx
    cases r1
    exact cat_tup0 p1 p2 ⟨.ref b, H, I, rfl, q0 rfl⟩
  · refine HT.cat_tup p1 p2 (fun z => hx (r1.nil_iff.mp z)) (fun z => ⟨.ref a, H, I, rfl, q1 hx (r2.nil_iff.mp z)⟩) (fun z => ?_) (by rw [← r1.length, ← r2.length]; exact hz)
    refine ⟨.ref s.heap.objs.size, _, I.laid (t' := s.toks) (o := .frz { cls := .type "tuple", data := .seq (its ++ its2).toArray } (.tup (xs ++ ys))) (fun b ob q => Heap.get?_push_of_some _ q) (Nat.le_refl _) ?_, rfl, q2 hx (fun w => z (r2.nil_iff.mpr w)) _ _ (I.hok.fresh (Nat.le_refl _)) rfl⟩
    exact ⟨Heap.get?_push_size _ rfl, by rw [List.length_append]; exact hz, _, r1.append r2, IsTup.new _ _⟩
def rSlF (K : PySem.W.Frag) : V → Option Int → Option Int → Hp → VK → Prop := fun x lo hi H Q => ∃ a xs, x = .ref a ∧ SqT K H a xs ∧
  (HT.sIx xs.length 0 lo = 0 ∧ HT.sIx xs.length xs.length hi = xs.length → Q (.ref a) H) ∧ (¬ (HT.sIx xs.length 0 lo = 0 ∧ HT.sIx xs.length xs.length hi = xs.length) → NewT H (cutV xs lo hi) Q)
theorem sl_tupF : SlR X (rSlF X.K) := by
  intro pins s σ H x v vl vu lo hi sl Q I rx hs pl pu h
  obtain ⟨a, xs, rfl, hx, q1, q2⟩ := h
  cases rx
  obtain ⟨its, r, ht, hz⟩ := I.tuple hx
  have hlen : its.toArray.size = xs.length := by rw [List.size_toArray]; exact r.length.symm
  refine ⟨"tuple", _, PyProof.Rows.slot_tuple_getitem.lookup, ht.typeIs, ?_⟩
  by_cases hw : HT.sIx xs.length 0 lo = 0 ∧ HT.sIx xs.length xs.length hi = xs.length
  · exact getItem_tuple_whole ht hs pl pu (by rw [hlen]; exact hw) ⟨.ref a, H, I, rfl, q1 hw⟩
  · refine HT.getItem_tuple_cut ht hs pl pu (by rw [hlen]; exact hw) ?_ (by rw [hlen]; exact hz)
    rw [hlen]
    refine ⟨.ref s.heap.objs.size, _, I.laid (t' := s.toks) (o := .frz { cls := .type "tuple", data := .seq ((its.drop (HT.sIx xs.length 0 lo)).take (HT.sIx xs.length xs.length hi - HT.sIx xs.length 0 lo)).toArray } (.tup (cutV xs lo hi))) (fun b ob q => Heap.get?_push_of_some _ q) (Nat.le_refl _) ?_, rfl, q2 hw _ _ (I.hok.fresh (Nat.le_refl _)) rfl⟩
    exact ⟨Heap.get?_push_size _ rfl, Nat.le_trans (cutV_length xs lo hi) hz, _, (r.drop (HT.sIx xs.length 0 lo)).take (HT.sIx xs.length xs.length hi - HT.sIx xs.length 0 lo), IsTup.new _ _⟩
def tTupRgF (te : L2.St → Hp → (Int → Int → Hp → Prop) → Prop) : TE := fun σ H Q => te σ H fun a b H1 => RgOk a b ∧ NewT H1 (rgV a b) Q
theorem pe_tupRgF {p pos : Pos} {te : L2.St → Hp → (Int → Int → Hp → Prop) → Prop} (hc : X.calm = true) (hg : Gl X "tuple") (hm : X.mg "tuple" = none) (he : PRg X e te) (na : starEach [e] X.env = (false, eval e X.env) :: starEach [] X.env) : PE X (.Call (.Name "tuple" p) [e] [] pos) (tTupRgF te) := by
  refine ⟨fun pins s σ H Q I h => ?_⟩
  refine Call_ (ld_blt I hg hm boot_tuple (PyProof.Rows.callWith_type1 (args_cons (thn (he pins s σ H _ I h) fun x s1 ⟨r, a, b, t, u, v, H1, ex, hr, I1, ok, q⟩ => args_nil ?_) na) na))
  subst ex
  obtain ⟨b1, b2, b3, b4, b5⟩ := ok
  refine call_tuple_range (n := (b - a).toNat) (I1.ok.hd hc) hr (small_one b1 b2 b3 b4) (rangeSize_nat a b) b5 fun h' tk acc hk hi => ?_
  have I2 : Inv X pins σ H1 { s1 with heap := h', toks := tk } := I1.kept hk
  refine ⟨.ref h'.objs.size, _, I2.laid (t' := tk) (o := .frz { cls := .type "tuple", data := .seq acc } (.tup (rgV a b))) (fun c o e => Heap.get?_push_of_some _ e) (Nat.le_refl _) ⟨Heap.get?_push_size _ rfl, ?_, acc.toList, vals_rg hi, ?_⟩, rfl, q _ _ (I2.hok.fresh (Nat.le_refl _)) rfl⟩
  · rw [rgV_length, sizeLine_eq]; omega
  · rw [Array.toArray_toList]; exact IsTup.new _ _
/-- t[::-1] of a tuple -/
def tRevT (K : PySem.W.Frag) (te : TE) : TE := fun σ H Q => te σ H fun x H1 => ∃ a xs, x = .ref a ∧ SqT K H1 a xs ∧ NewT H1 xs.reverse Q
theorem pe_revT {e : Expr} {te : TE} {k : Nat} {p1 p2 p3 pos : Pos} (he : PE X e te) : PE X (.Subscript e (.Slice none none (some (.UnaryOp .USub (.Constant (.int 1) k p1) p2)) p3) pos) (tRevT X.K te) := by
  refine ⟨fun pins s σ H Q I h => ?_⟩
  refine Subscript_ (thn (he.run pins s σ H _ I h) fun v s1 ⟨x, H1, I1, r1, q1⟩ => ?_)
  obtain ⟨a, xs, ex, hx, q⟩ := q1
  subst ex
  cases r1
  have hst : PO X (some (.UnaryOp .USub (.Constant (.int 1) k p1) p2)) (tPart (tUn (rU fun i => .int (-i)) (tC (.int 1)))) := po_some (pe_un un_neg pe_int)
  refine wpAny_Slice (thn (po_none.run pins s1 σ H1 (fun o H2 => o = none ∧ H2 = H1) I1 ⟨rfl, rfl⟩) fun vl s2 ⟨l, H2, I2, pl, el, e2⟩ => ?_)
  subst el e2
  refine thn (po_none.run pins s2 σ H2 (fun o H3 => o = none ∧ H3 = H2) I2 ⟨rfl, rfl⟩) fun vu s3 ⟨u, H3, I3, pu, eu, e3⟩ => ?_
  subst eu e3
  refine thn (hst.run pins s3 σ H3 (fun o H4 => o = some (-1) ∧ H4 = H3) I3 ⟨1, rfl, -1, rfl, rfl, rfl⟩) fun vs s4 ⟨o, H4, I4, ps, eo, e4⟩ => ?_
  subst eo e4
  have I5 : Inv X pins σ H4 { s4 with heap := s4.heap.push { cls := .type "slice", data := .fields #[vl, vu, vs] } } := I4.kept (t' := s4.toks) fun b ob q => Heap.get?_push_of_some _ q
  obtain ⟨its, r, ht, hz⟩ := I5.tuple hx
  have hlen := r.length
  show wpAny (model X.prog X.w) X.A (subscriptTail e (.Slice none none (some (.UnaryOp .USub (.Constant (.int 1) k p1) p2)) p3) (.ref a) (.ref s4.heap.objs.size)) (EP X pins σ Q) X.xe { s4 with heap := s4.heap.push { cls := .type "slice", data := .fields #[vl, vu, vs] } }
  refine tail_any (ops := [.ref a, .ref s4.heap.objs.size]) ht.typeIs (PyProof.Rows.slot_tuple_getitem.lookup) ?_ (by with_unfolding_all rfl)
  refine HT.getItem_tuple_rev ht (Heap.IsSliceOf.new _ vl vu vs) pl pu ps ?_ (by rw [List.size_toArray]; omega)
  refine ⟨.ref _, _, I5.laid (t' := s4.toks) (o := .frz { cls := .type "tuple", data := .seq its.reverse.toArray } (.tup xs.reverse)) (fun b ob q => Heap.get?_push_of_some _ q) (Nat.le_refl _) ?_, rfl, q _ _ (I5.hok.fresh (Nat.le_refl _)) rfl⟩
  exact ⟨Heap.get?_push_size _ rfl, by rw [List.length_reverse]; exact hz, its.reverse, r.reverse, IsTup.new _ _⟩

/-! ### sum of a tuple -/
theorem preSum_take (ns : List Int) : ∀ n, preSum (fun i => ns.getD i 0) n = (ns.take n).sum
  | 0 => by simp [preSum]
  | n + 1 => by
    have ih := preSum_take ns n
    show preSum (fun i => ns.getD i 0) n + ns.getD n 0 = _
    rw [ih]
    by_cases h : n < ns.length
    · rw [List.take_add_one, List.getElem?_eq_getElem h, List.sum_append]
      simp [List.getD_eq_getElem?_getD, List.getElem?_eq_getElem h]
    · rw [List.take_of_length_le (by omega), List.take_of_length_le (by omega)]
      simp [List.getD_eq_getElem?_getD, List.getElem?_eq_none (by omega : ns.length ≤ n)]
def rSumT (K : PySem.W.Frag) : List V → Hp → VK → Prop := fun vs H Q => ∃ (a : Addr) (ns : List Int), vs = [V.ref a] ∧ SqT K H a (ns.map V.int) ∧ Q (.int ns.sum) H
theorem cr_sumT (hc : X.calm = true) : CallR X (.builtin "sum") (rSumT X.K) := by
  intro pins s σ H vs us Q I r h
  obtain ⟨a, ns, rfl, hs, q⟩ := h
  obtain ⟨its, rv, ht, hz⟩ := I.tuple hs
  rw [Vals.ref1 r]
  have hlen : its.length = ns.length := by have := rv.length; rw [List.length_map] at this; exact this.symm
  have hT : s.heap.IsTuple a its.toArray := ht
  refine call_sum_walkG (wpAny_pyIter_tuple hT ?_)
  have hlt : a < s.heap.objs.size := by
    obtain ⟨o, ho, _⟩ := ht
    exact Heap.lt_size ho
  refine ⟨_, _, _, _, _, _, fun i => ns.getD i 0, rfl, Walks.tuple (A := X.A.in1) (I.ok.hd hc) _ a (Nat.ne_of_lt hlt) its.toArray, ⟨⟨_, Heap.get?_push_size _ rfl, rfl, rfl⟩, ?_⟩, ?_, ?_, fun h' tk t' hk => ?_⟩
  · obtain ⟨o, ho, hc2⟩ := ht
    exact ⟨o, Heap.get?_push_of_some _ ho, hc2⟩
  · intro b hb
    show b < (s.heap.push _).objs.size
    rw [Heap.size_push]
    rcases List.mem_cons.mp hb with e | hb
    · subst e; exact Nat.lt_succ_self _
    · rcases List.mem_cons.mp hb with e | hb
      · subst e; exact Nat.lt_succ_of_lt hlt
      · cases hb
  · intro i v hv
    have hi : i < ns.length := by
      have := (Array.getElem?_eq_some_iff.mp hv).1
      simpa [hlen] using this
    obtain ⟨u, hu, t, hu2⟩ := rv.get (i := i) (x := .int ns[i]) (by simp [hi])
    have e : its[i]? = some v := by simpa using hv
    rw [hu] at e
    cases e
    exact ⟨t, by rw [hu2]; simp [List.getD_eq_getElem?_getD, hi]⟩
  · have e : preSum (fun i => ns.getD i 0) its.toArray.size = ns.sum := by
      rw [preSum_take, List.size_toArray, hlen, List.take_of_length_le (Nat.le_refl _)]
    rw [e]
    exact ⟨.int _, H, I.kept fun b o eo => hk b o (fun hm => by
      rcases List.mem_cons.mp hm with e1 | hm
      · exact absurd (e1 ▸ Heap.lt_size eo) (Nat.lt_irrefl _)
      · cases hm) (Heap.get?_push_of_some _ eo), ⟨_, rfl⟩, q⟩

/-! ### t.index(x) of flat things -/
def rIndexT (K : PySem.W.Frag) : V → List V → Hp → VK → Prop := fun x xs H Q => ∃ (a : Addr) (ys : List V) (y : V) (j : Nat) (z : V), x = V.ref a ∧ xs = [y] ∧ SqT K H a ys ∧ flatV y = true ∧ ys.all flatV = true ∧ ys[j]? = some z ∧ eqV z y = true ∧
  (∀ (m : Nat) (z' : V), m < j → ys[m]? = some z' → eqV z' y = false) ∧ Q (.int (j : Nat)) H
theorem mt_indexT : MtR X "tuple.index" (rIndexT X.K) := by
  intro pins s σ H x xs v us Q I rx rxs h
  obtain ⟨a, ys, y, j, z, rfl, rfl, hs, fy, fys, hz, hzj, hno, q⟩ := h
  cases rx
  cases rxs with
  | cons ry rt =>
    rename_i uy ut
    cases rt
    obtain ⟨its, rv, pl, hlen⟩ := I.tuple hs
    obtain ⟨⟨cls, dd, dt, sl⟩, ho, hc, n, hd⟩ := pl
    simp only at hc hd
    subst hc hd
    obtain ⟨u, hu, ru⟩ := rv.get hz
    obtain ⟨hjl, hje⟩ := List.getElem?_eq_some_iff.mp hu
    have hj : j < its.toArray.size := by simpa using hjl
    have hvl := rv.length
    refine call_meets PySem.F.slot_tuple_index ⟨_, ho, rfl⟩ PySem.F.entry_tuple_index (PySem.F.args_tuple_index_2 _ _) (_root_.TI.tuple_indexAt a its.toArray n dd sl uy (eqU y) j hj ?_ ?_)
      ⟨ho, fun u' hu' => mem_eqAt ry fy rv fys u' (by simpa using hu'), ⟨.int (j : Nat), H, I.tok _, ⟨_, rfl⟩, q⟩⟩
    · have e1 : its.toArray[j] = u := by simpa using hje
      rw [e1, eqU_of ru (flat_at fys hz)]
      exact hzj
    · intro m hm hmj
      have hml : m < its.length := by simpa using hm
      have hmy : m < ys.length := by omega
      have hy' : ys[m]? = some ys[m] := List.getElem?_eq_getElem hmy
      obtain ⟨u2, hu2, ru2⟩ := rv.get hy'
      obtain ⟨_, hme⟩ := List.getElem?_eq_some_iff.mp hu2
      have e1 : its.toArray[m] = u2 := by simpa using hme
      rw [e1, eqU_of ru2 (flat_at fys hy')]
      exact hno m _ hmj hy'

/-- t.m(e, ..) of a tuple -/
def tBMT (K : PySem.W.Frag) (r : V → List V → Hp → VK → Prop) (to : TE) (t : TA) : TE := fun σ H Q => to σ H fun x H1 => (∃ a vs, x = .ref a ∧ SqF K H1 a vs) ∧ t σ H1 fun xs H2 => r x xs H2 Q
theorem pe_bmT {o : Expr} {to : TE} {name : Str} {apos cpos : Pos} {id : String} {r : V → List V → Hp → VK → Prop} (slot : Slot "tuple" name id) (hty : typeOf (.builtin id) = pure (.type "method_descriptor")) (hm : MtR X id r) (ho : PE X o to) (ha : PA X (e :: es) t)
    (hbase : attributeBase o name X.env (eval o X.env) = eval o X.env)
    (hfew : ((backTo cpos (starEach (e :: es) X.env)).all (fun x => !x.1) && (backToKw cpos (keywordEach [] X.env)).all (fun x => x.1.isSome)
      && decide ((e :: es).length + ([] : List Keyword).length + (if ([] : List Keyword).isEmpty then 0 else 1) < 30)) = true)
    (hline : (apos.endLine == cpos.line) = true) (hs : starEach (e :: es) X.env = (false, eval e X.env) :: starEach es X.env) (hplain : (backTo cpos (starEach es X.env)).any (·.1) = false) :
    PE X (.Call (.Attribute o name apos) (e :: es) [] cpos) (tBMT X.K r to t) := by
  refine ⟨fun pins s σ H Q I h => ?_⟩
  refine wpAny_Call_method_late hbase hfew hline rfl (thn (ho.run pins s σ H _ I h) fun v s1 ⟨x, H1, I1, r1, ty, q1⟩ => ?_)
  have tyis : s1.TypeIs v "tuple" ∧ ∀ a, v = .ref a → ∃ ob, s1.heap.get? a = some ob ∧ ob.dict = none := by
    obtain ⟨a, vs, rfl, hq⟩ := ty
    cases r1
    obtain ⟨its, _, pl, _⟩ := I1.tuple hq.t
    refine ⟨pl.typeIs, fun b e => ?_⟩
    cases e
    rcases hq with ⟨ob, h1, h2⟩ | ⟨ob, its, n, h1, _, h2, _⟩
    · exact ⟨ob, (I1.hok _ _ h1).1, h2⟩
    · exact ⟨ob, I1.kIn _ _ h1, h2⟩
  obtain ⟨h1, h2⟩ := tyis
  refine ⟨"tuple", id, PySem.F.plainAttrs_tuple, slot, hty, h1, h2, ?_⟩
  have hA := ha.run cpos pins s1 σ H1 _ I1 q1
  rw [hs] at hA ⊢
  refine Calls.callWith_builtin (by show (false || (backTo cpos (starEach es X.env)).any (·.1)) = false; rw [hplain] <;> rfl) (Calls.evalArgs_plain ?_)
  exact thn hA fun us s2 ⟨vs, H2, I2, r2, q2⟩ => hm pins s2 σ H2 x vs v us Q I2 r1 r2 q2
end
end Mp

/-! Mp: a small value language over the hand layer. Data, how it lies in the abstract heap, the ghost state of a def's run. -/
namespace Mp
open PySem PySem.Spec L2

/-- data: what a value is, without addresses -/
inductive D where
  | non | bl (b : Bool) | int (i : Int) | str (x : Str) | tup (xs : List D) | lst (xs : List D) | dct (kvs : List (Key × D)) | jar | obj (a : Addr) | ins (c : Nat) (fs : List (Str × D)) | dtp (kvs : List (List Key × D))
  deriving Inhabited

/-- the random source of a law (J its state), and the classes -/
structure Js (J : Type) where
  K : PySem.W.Frag
  R : V
  cl : Nat → Addr
  xc : Nat → Addr
  xf : Nat → Str
  rep : J → Hp → (Addr → Prop) → Hp → Prop
  frame : ∀ {j : J} {F F' : Hp} {A : Addr → Prop} {H H' : Hp}, rep j F A H → Same F F' → (∀ b, A b → H' b = H b) → rep j F' A H'
  dom : ∀ {j : J} {F : Hp} {A : Addr → Prop} {H : Hp} {b : Addr}, rep j F A H → A b → H b ≠ none

variable {J : Type}
mutual
inductive Rp (S : Js J) (F : Hp) : D → V → Prop
  | non : Rp S F .non .non
  | bl (b : Bool) : Rp S F (.bl b) (.bl b)
  | int (i : Int) : Rp S F (.int i) (.int i)
  | str (x : Str) : Rp S F (.str x) (.str x)
  | tup {a : Addr} {ds : List D} {vs : List V} : SqF S.K F a vs → RpL S F ds vs → Rp S F (.tup ds) (.ref a)
  | lst {a : Addr} {ds : List D} {vs : List V} : F a = some (.lst vs) → RpL S F ds vs → Rp S F (.lst ds) (.ref a)
  | dct {a : Addr} {kds : List (Key × D)} {kvs : List (Key × V)} : F a = some (.dK kvs) → kds.map Prod.fst = kvs.map Prod.fst → RpL S F (kds.map Prod.snd) (kvs.map Prod.snd) → Rp S F (.dct kds) (.ref a)
  | jar : Rp S F .jar S.R
  | obj (a : Addr) : Rp S F (.obj a) (.ref a)
  | ins {a dx : Addr} {c : Nat} {kds : List (Str × D)} {kvs : List (Str × V)} : F a = some (.ins (S.cl c) dx kvs) → kds.map Prod.fst = kvs.map Prod.fst → RpL S F (kds.map Prod.snd) (kvs.map Prod.snd) → Rp S F (.ins c kds) (.ref a)
  | dtp {a : Addr} {kds : List (List Key × D)} {kvs : List (List Key × V)} : F a = some (.dT kvs) → kds.map Prod.fst = kvs.map Prod.fst → RpL S F (kds.map Prod.snd) (kvs.map Prod.snd) → Rp S F (.dtp kds) (.ref a)
inductive RpL (S : Js J) (F : Hp) : List D → List V → Prop
  | nil : RpL S F [] []
  | cons {d : D} {ds : List D} {v : V} {vs : List V} : Rp S F d v → RpL S F ds vs → RpL S F (d :: ds) (v :: vs)
end

theorem RpL.length {S : Js J} {F : Hp} : ∀ {ds : List D} {vs : List V}, RpL S F ds vs → ds.length = vs.length
  | _, _, .nil => rfl
  | _, _, .cons _ t => by rw [List.length_cons, List.length_cons, t.length]

theorem sqL_same {K : PySem.W.Frag} {F G : Hp} (e : Same F G) {a : Addr} {xs : List V} (h : SqL K F a xs) : SqL K G a xs := e.seq h
theorem sqT_same {K : PySem.W.Frag} {F G : Hp} (e : Same F G) {a : Addr} {xs : List V} (h : SqT K F a xs) : SqT K G a xs := by
  rcases h with (h | ⟨o, h⟩) | h
  · exact .inl (.inl (e _ _ h))
  · exact .inl (.inr ⟨o, e _ _ h⟩)
  · exact .inr h

mutual
theorem Rp.mono {S : Js J} {F G : Hp} (e : Same F G) : ∀ {d : D} {v : V}, Rp S F d v → Rp S G d v
  | _, _, .non => .non
  | _, _, .bl b => .bl b
  | _, _, .int i => .int i
  | _, _, .str x => .str x
  | _, _, .tup h t => .tup (h.same e) (RpL.mono e t)
  | _, _, .lst h t => .lst (e _ _ h) (RpL.mono e t)
  | _, _, .dct h l t => .dct (e _ _ h) l (RpL.mono e t)
  | _, _, .jar => .jar
  | _, _, .obj a => .obj a
  | _, _, .ins h l t => .ins (e _ _ h) l (RpL.mono e t)
  | _, _, .dtp h l t => .dtp (e _ _ h) l (RpL.mono e t)
theorem RpL.mono {S : Js J} {F G : Hp} (e : Same F G) : ∀ {ds : List D} {vs : List V}, RpL S F ds vs → RpL S G ds vs
  | _, _, .nil => .nil
  | _, _, .cons h t => .cons (Rp.mono e h) (RpL.mono e t)
end

section
variable {S : Js J} {F : Hp}
theorem RpL.get : ∀ {ds : List D} {vs : List V} {i : Nat} {d : D}, RpL S F ds vs → ds[i]? = some d → ∃ v, vs[i]? = some v ∧ Rp S F d v
  | _, _, _, _, .nil, e => by simp at e
  | _, _, 0, _, .cons r _, e => by simp at e; subst e; exact ⟨_, rfl, r⟩
  | _, _, i + 1, d, .cons _ t, e => by
    obtain ⟨u, h1, h2⟩ := RpL.get (i := i) (d := d) t (by simpa using e)
    exact ⟨u, by simpa using h1, h2⟩
theorem RpL.get' : ∀ {ds : List D} {vs : List V} {i : Nat} {v : V}, RpL S F ds vs → vs[i]? = some v → ∃ d, ds[i]? = some d ∧ Rp S F d v
  | _, _, _, _, .nil, e => by simp at e
  | _, _, 0, _, .cons r _, e => by simp at e; subst e; exact ⟨_, rfl, r⟩
  | _, _, i + 1, d, .cons _ t, e => by
    obtain ⟨u, h1, h2⟩ := RpL.get' (i := i) (v := d) t (by simpa using e)
    exact ⟨u, by simpa using h1, h2⟩
theorem RpL.append : ∀ {ds es : List D} {vs ws : List V}, RpL S F ds vs → RpL S F es ws → RpL S F (ds ++ es) (vs ++ ws)
  | _, _, _, _, .nil, h => h
  | _, _, _, _, .cons r t, h => .cons r (RpL.append t h)
theorem RpL.take : ∀ (n : Nat) {ds : List D} {vs : List V}, RpL S F ds vs → RpL S F (ds.take n) (vs.take n)
  | 0, _, _, _ => .nil
  | _ + 1, _, _, .nil => .nil
  | n + 1, _, _, .cons r t => .cons r (RpL.take n t)
theorem RpL.drop : ∀ (n : Nat) {ds : List D} {vs : List V}, RpL S F ds vs → RpL S F (ds.drop n) (vs.drop n)
  | 0, _, _, h => h
  | _ + 1, _, _, .nil => .nil
  | n + 1, _, _, .cons r t => RpL.drop n t
theorem RpL.reverse {ds : List D} {vs : List V} (h : RpL S F ds vs) : RpL S F ds.reverse vs.reverse := by
  induction ds generalizing vs with
  | nil => cases h; exact .nil
  | cons d ds ih =>
    cases h with
    | cons r t =>
      rw [List.reverse_cons, List.reverse_cons]
      exact (ih t).append (.cons r .nil)
theorem RpL.set {d : D} {v : V} (r : Rp S F d v) : ∀ (n : Nat) {ds : List D} {vs : List V}, RpL S F ds vs → RpL S F (ds.set n d) (vs.set n v)
  | _, _, _, .nil => .nil
  | 0, _, _, .cons _ t => .cons r t
  | n + 1, _, _, .cons q t => .cons q (RpL.set r n t)
theorem RpL.eraseIdx : ∀ (n : Nat) {ds : List D} {vs : List V}, RpL S F ds vs → RpL S F (ds.eraseIdx n) (vs.eraseIdx n)
  | _, _, _, .nil => .nil
  | 0, _, _, .cons _ t => t
  | n + 1, _, _, .cons q t => .cons q (RpL.eraseIdx n t)
theorem RpL.dropLast {ds : List D} {vs : List V} (h : RpL S F ds vs) : RpL S F ds.dropLast vs.dropLast := by
  rw [List.dropLast_eq_take, List.dropLast_eq_take, h.length]
  exact h.take _
theorem RpL.ints : ∀ (ns : List Int), RpL S F (ns.map D.int) (ns.map V.int)
  | [] => .nil
  | n :: ns => .cons (.int n) (RpL.ints ns)
theorem RpL.of_ints : ∀ {ns : List Int} {vs : List V}, RpL S F (ns.map D.int) vs → vs = ns.map V.int
  | [], _, h => by cases h; rfl
  | n :: ns, _, h => by
    cases h with
    | cons r t => cases r; rw [RpL.of_ints t]; rfl
theorem RpL.of_bls : ∀ {ns : List Bool} {vs : List V}, RpL S F (ns.map D.bl) vs → vs = ns.map V.bl
  | [], _, h => by cases h; rfl
  | n :: ns, _, h => by
    cases h with
    | cons r t => cases r; rw [RpL.of_bls t]; rfl
theorem RpL.of_strs : ∀ {ns : List Str} {vs : List V}, RpL S F (ns.map D.str) vs → vs = ns.map V.str
  | [], _, h => by cases h; rfl
  | n :: ns, _, h => by
    cases h with
    | cons r t => cases r; rw [RpL.of_strs t]; rfl
theorem RpL.strs : ∀ (ns : List Str), RpL S F (ns.map D.str) (ns.map V.str)
  | [] => .nil
  | n :: ns => .cons (.str n) (RpL.strs ns)
end

/-- a source that does not look at what is frozen -/
class PureJ (S : Js J) : Prop where
  pu : ∀ {j : J} {F F' : Hp} {A : Addr → Prop} {H : Hp}, S.rep j F A H → S.rep j F' A H
/-! ### the ghost state -/
/-- F: what is frozen; G: what is seen (F, and what this def owns); A: where the random source lies -/
structure Gh where
  F : Hp
  G : Hp
  A : Addr → Prop
/-- the entry of a def -/
structure Bs where
  F0 : Hp
  H0 : Hp
  A0 : Addr → Prop
structure OkB (S : Js J) (B : Bs) (g : Gh) (H : Hp) (j : J) : Prop where
  fg : Same g.F g.G
  gh : Same g.G H
  ga : ∀ b o, g.G b = some o → ¬ g.A b
  jr : S.rep j g.F g.A H
  f0 : Same B.F0 g.F
  g0 : ∀ b o, g.G b = some o → B.F0 b = some o ∨ B.H0 b = none
  a0 : ∀ b, g.A b → B.A0 b ∨ B.H0 b = none
  h0 : ∀ b o, B.H0 b = some o → ¬ B.A0 b → H b = some o
  h1 : ∀ b, H b = none → B.H0 b = none
  sm : ∃ o u, H sysModules = some (.frz o u)

/-- a mutable thing at a that a slot alone holds -/
def Own (S : Js J) (g : Gh) (d : D) (a : Addr) : Prop :=
  g.F a = none ∧ ((∃ ds vs, d = .lst ds ∧ g.G a = some (.lst vs) ∧ RpL S g.F ds vs) ∨
    (∃ kds kvs, d = .dct kds ∧ g.G a = some (.dK kvs) ∧ kds.map Prod.fst = kvs.map Prod.fst ∧ RpL S g.F (kds.map Prod.snd) (kvs.map Prod.snd)) ∨
    (∃ kds kvs, d = .dtp kds ∧ g.G a = some (.dT kvs) ∧ kds.map Prod.fst = kvs.map Prod.fst ∧ RpL S g.F (kds.map Prod.snd) (kvs.map Prod.snd)))
abbrev Sd := List (Option D)
structure Slots (S : Js J) (g : Gh) (M : Nat → Bool) (r : St) (m : Sd) : Prop where
  len : r.length = m.length
  fr : ∀ i d, m[i]? = some (some d) → M i = false → ∃ v, r[i]? = some (some v) ∧ Rp S g.F d v
  ow : ∀ i d, m[i]? = some (some d) → M i = true → ∃ a, r[i]? = some (some (.ref a)) ∧ Own S g d a
  dj : ∀ i j a d e, m[i]? = some (some d) → m[j]? = some (some e) → M i = true → M j = true → r[i]? = some (some (.ref a)) → r[j]? = some (some (.ref a)) → i = j
structure Ok (S : Js J) (B : Bs) (g : Gh) (M : Nat → Bool) (r : St) (H : Hp) (m : Sd) (j : J) : Prop where
  b : OkB S B g H j
  s : Slots S g M r m

structure Le (p q : Gh) : Prop where
  f : Same p.F q.F
  g : Same p.G q.G
  n : ∀ b o, q.F b = some o → p.F b = some o ∨ p.G b = none
theorem Le.refl (g : Gh) : Le g g := ⟨Same.refl _, Same.refl _, fun _ _ e => .inl e⟩
theorem Le.trans {g1 g2 g3 : Gh} (x : Le g1 g2) (y : Le g2 g3) : Le g1 g3 :=
  ⟨x.f.trans y.f, x.g.trans y.g, fun b o e => by
    rcases y.n b o e with h | h
    · exact x.n b o h
    · right
      exact x.g.free h⟩

inductive Cl | fresh | clean | mix
  deriving DecidableEq
/-- what is known of a value, by its class; g the ghost ahead of its evaluation, g' behind -/
def Val (S : Js J) (g g' : Gh) : Cl → D → V → Prop
  | .fresh, d, v => ∃ a, v = .ref a ∧ g.G a = none ∧ Own S g' d a
  | .clean, d, v => Rp S g'.F d v
  | .mix, d, v => Rp S g'.G d v

section
variable {S : Js J} {B : Bs} {g g' g'' : Gh} {H H' : Hp} {j j' : J} {d : D} {v : V} {a : Addr} {M : Nat → Bool} {r : St} {m : Sd}
theorem Own.rp (h : Own S g d a) (fg : Same g.F g.G) : Rp S g.G d (.ref a) := by
  obtain ⟨_, ⟨ds, vs, rfl, e, t⟩ | ⟨kds, kvs, rfl, e, l, t⟩ | ⟨kds, kvs, rfl, e, l, t⟩⟩ := h
  · exact .lst e (t.mono fg)
  · exact .dct e l (t.mono fg)
  · exact .dtp e l (t.mono fg)
theorem Own.in_g (h : Own S g d a) : ∃ o, g.G a = some o := by
  obtain ⟨_, ⟨ds, vs, rfl, e, t⟩ | ⟨kds, kvs, rfl, e, l, t⟩ | ⟨kds, kvs, rfl, e, l, t⟩⟩ := h
  · exact ⟨_, e⟩
  · exact ⟨_, e⟩
  · exact ⟨_, e⟩
theorem Own.le (h : Own S g d a) (l : Le g g') : Own S g' d a := by
  obtain ⟨o, ho⟩ := h.in_g
  have n : g'.F a = none := by
    cases q : g'.F a with
    | none => rfl
    | some u =>
      rcases l.n a u q with z | z
      · rw [h.1] at z; cases z
      · rw [ho] at z; cases z
  refine ⟨n, ?_⟩
  obtain ⟨_, ⟨ds, vs, rfl, e, t⟩ | ⟨kds, kvs, rfl, e, l', t⟩ | ⟨kds, kvs, rfl, e, l', t⟩⟩ := h
  · exact .inl ⟨ds, vs, rfl, l.g _ _ e, t.mono l.f⟩
  · exact .inr (.inl ⟨kds, kvs, rfl, l.g _ _ e, l', t.mono l.f⟩)
  · exact .inr (.inr ⟨kds, kvs, rfl, l.g _ _ e, l', t.mono l.f⟩)
theorem Slots.le (h : Slots S g M r m) (l : Le g g') : Slots S g' M r m :=
  ⟨h.len, fun i d e q => let ⟨v, h1, h2⟩ := h.fr i d e q; ⟨v, h1, h2.mono l.f⟩, fun i d e q => let ⟨a, h1, h2⟩ := h.ow i d e q; ⟨a, h1, h2.le l⟩, h.dj⟩
theorem Val.mix {c : Cl} (h : Val S g g' c d v) (fg : Same g'.F g'.G) : Rp S g'.G d v := by
  cases c with
  | fresh => obtain ⟨a, rfl, _, o⟩ := h; exact o.rp fg
  | clean => exact Rp.mono fg h
  | mix => exact h
theorem Val.le {c : Cl} (h : Val S g g' c d v) (l : Le g' g'') : Val S g g'' c d v := by
  cases c with
  | fresh => obtain ⟨a, rfl, n, o⟩ := h; exact ⟨a, rfl, n, o.le l⟩
  | clean => exact Rp.mono l.f h
  | mix => exact Rp.mono l.g h
theorem Val.back {g0 : Gh} {c : Cl} (h : Val S g g' c d v) (l : Le g0 g) : Val S g0 g' c d v := by
  cases c with
  | fresh => obtain ⟨a, rfl, n, o⟩ := h; exact ⟨a, rfl, l.g.free n, o⟩
  | clean => exact h
  | mix => exact h

theorem OkB.hn (k : OkB S B g H j) {p : Addr} (h : H p = none) : g.F p = none ∧ g.G p = none ∧ ¬ g.A p ∧ B.H0 p = none := by
  have hg : g.G p = none := k.gh.free h
  refine ⟨k.fg.free hg, hg, fun z => k.jr |> fun q => S.dom q z h, k.h1 p h⟩
/-- a new object that is seen, not frozen -/
def Gh.see (g : Gh) (p : Addr) (o : HO) : Gh := ⟨g.F, upd g.G p o, g.A⟩
/-- a new object, frozen -/
def Gh.frz (g : Gh) (p : Addr) (o : HO) : Gh := ⟨upd g.F p o, upd g.G p o, g.A⟩
theorem same_upd {F G : Hp} {p : Addr} {o : HO} (e : Same F G) : Same (upd F p o) (upd G p o) := fun b u h => by
  by_cases hb : b = p
  · subst hb; rw [upd_same] at h ⊢; exact h
  · rw [upd_ne hb] at h ⊢; exact e b u h
theorem same_new {F : Hp} {p : Addr} {o : HO} (n : F p = none) : Same F (upd F p o) := fun b u h => by
  rw [upd_ne (ne_of_none h n)]; exact h
theorem Le.see {p : Addr} {o : HO} (n : g.G p = none) : Le g (g.see p o) := ⟨Same.refl _, same_new n, fun _ _ e => .inl e⟩
theorem Le.frz {p : Addr} {o : HO} (fg : Same g.F g.G) (n : g.G p = none) : Le g (g.frz p o) :=
  ⟨same_new (fg.free n), same_new n, fun b u e => by
    by_cases hb : b = p
    · subst hb; exact .inr n
    · left
      have e' : upd g.F p o b = some u := e
      rw [upd_ne hb] at e'
      exact e'⟩
theorem OkB.see (k : OkB S B g H j) {p : Addr} (o : HO) (h : H p = none) : OkB S B (g.see p o) (upd H p o) j := by
  obtain ⟨hf, hg, ha, h0⟩ := k.hn h
  refine ⟨k.fg.trans (same_new hg), same_upd k.gh, fun b u e => ?_, S.frame k.jr (Same.refl _) fun b z => upd_ne fun q => ha (q ▸ z), k.f0, fun b u e => ?_, k.a0, fun b u e n => ?_, fun b e => ?_, ?_⟩
  · by_cases hb : b = p
    · subst hb; exact ha
    · have e' : upd g.G p o b = some u := e
      rw [upd_ne hb] at e'
      exact k.ga b u e'
  · by_cases hb : b = p
    · subst hb; exact .inr h0
    · have e' : upd g.G p o b = some u := e
      rw [upd_ne hb] at e'
      exact k.g0 b u e'
  · rw [upd_ne (ne_of_none e h0)]; exact k.h0 b u e n
  · by_cases hb : b = p
    · subst hb; exact h0
    · rw [upd_ne hb] at e; exact k.h1 b e
  · obtain ⟨o1, u1, e1⟩ := k.sm
    exact ⟨o1, u1, by rw [upd_ne (ne_of_none e1 h)]; exact e1⟩
theorem OkB.frz (k : OkB S B g H j) {p : Addr} (o : HO) (h : H p = none) : OkB S B (g.frz p o) (upd H p o) j := by
  obtain ⟨hf, hg, ha, h0⟩ := k.hn h
  have q := k.see o h
  exact ⟨same_upd k.fg, q.gh, q.ga, S.frame q.jr (same_new hf) fun _ _ => rfl, k.f0.trans (same_new hf), q.g0, q.a0, q.h0, q.h1, q.sm⟩
/-- freeze an owned thing -/
def Gh.ice (g : Gh) (a : Addr) : Gh := ⟨fun b => if b = a then g.G a else g.F b, g.G, g.A⟩
theorem ice_same {a : Addr} (n : g.F a = none) : Same g.F (g.ice a).F := fun b o e => by
  show (if b = a then g.G a else g.F b) = some o
  by_cases hb : b = a
  · subst hb; rw [n] at e; cases e
  · rw [if_neg hb]; exact e
theorem ice_at {a : Addr} : (g.ice a).F a = g.G a := if_pos rfl
theorem OkB.ice (k : OkB S B g H j) {a : Addr} (n : g.F a = none) : OkB S B (g.ice a) H j :=
  ⟨fun b o e => by
    have e' : (if b = a then g.G a else g.F b) = some o := e
    by_cases hb : b = a
    · subst hb; rw [if_pos rfl] at e'; exact e'
    · rw [if_neg hb] at e'; exact k.fg b o e', k.gh, k.ga, S.frame k.jr (ice_same n) fun _ _ => rfl, k.f0.trans (ice_same n), k.g0, k.a0, k.h0, k.h1, k.sm⟩
theorem Own.ice (h : Own S g d a) : Rp S (g.ice a).F d (.ref a) := by
  obtain ⟨n, ⟨ds, vs, rfl, e, t⟩ | ⟨kds, kvs, rfl, e, l, t⟩ | ⟨kds, kvs, rfl, e, l, t⟩⟩ := h
  · exact .lst (ice_at.trans e) (t.mono (ice_same n))
  · exact .dct (ice_at.trans e) l (t.mono (ice_same n))
  · exact .dtp (ice_at.trans e) l (t.mono (ice_same n))
theorem Le.ice {a : Addr} (l : Le g g') (n : g.G a = none) (n' : g'.F a = none) : Le g (g'.ice a) :=
  ⟨l.f.trans (ice_same n'), l.g, fun b o e => by
    have e' : (if b = a then g'.G a else g'.F b) = some o := e
    by_cases hb : b = a
    · subst hb; exact .inr n
    · rw [if_neg hb] at e'; exact l.n b o e'⟩
/-- the slots do not see the freezing of what none of them holds -/
theorem Slots.ice {a : Addr} (h : Slots S g M r m) (l : Le g g') (n : g.G a = none) (n' : g'.F a = none) : Slots S (g'.ice a) M r m := h.le (l.ice n n')
theorem Slots.len_eq (h : Slots S g M r m) : r.length = m.length := h.len
end

/-! ### an exception: its class, its field's value -/
structure Ex where
  c : Nat
  d : Option D
def ExR (S : Js J) (F : Hp) (e : Ex) (cls : Value) (dx : Option Addr) : Prop :=
  cls = .ref (S.xc e.c) ∧ match e.d with
    | none => dx = none
    | some d => ∃ a v, dx = some a ∧ F a = some (.xd [(S.xf e.c, v)]) ∧ Rp S F d v
theorem ExR.mono {S : Js J} {F G : Hp} {e : Ex} {cls : Value} {dx : Option Addr} (h : ExR S F e cls dx) (s : Same F G) : ExR S G e cls dx := by
  obtain ⟨h1, h2⟩ := h
  refine ⟨h1, ?_⟩
  split at h2
  · exact h2
  · obtain ⟨a, v, h3, h4, h5⟩ := h2
    exact ⟨a, v, h3, s _ _ h4, h5.mono s⟩
end Mp

/-! N2: closures by what they bring about (with what is raised); the readings; operators, arguments, displays. -/
namespace Mp
open PySem PySem.Spec L2
variable {J : Type}

abbrev XP (J : Type) := Ex → Sd → J → Prop
abbrev Ev (J : Type) := Sd → J → (D → J → Prop) → XP J → Prop
abbrev Tv (J : Type) := Sd → J → (Bool → J → Prop) → XP J → Prop
abbrev Av (J : Type) := Sd → J → (List D → J → Prop) → XP J → Prop

/-- what is told of a closure: more is brought about, if more is wished -/
class MoE (f : Ev J) : Prop where
  mo : ∀ {m : Sd} {j : J} {P P' : D → J → Prop} {E E' : XP J}, f m j P E → (∀ d j', P d j' → P' d j') → (∀ e m' j', E e m' j' → E' e m' j') → f m j P' E'
class MoT (f : Tv J) : Prop where
  mo : ∀ {m : Sd} {j : J} {P P' : Bool → J → Prop} {E E' : XP J}, f m j P E → (∀ d j', P d j' → P' d j') → (∀ e m' j', E e m' j' → E' e m' j') → f m j P' E'
class MoA (f : Av J) : Prop where
  mo : ∀ {m : Sd} {j : J} {P P' : List D → J → Prop} {E E' : XP J}, f m j P E → (∀ d j', P d j' → P' d j') → (∀ e m' j', E e m' j' → E' e m' j') → f m j P' E'

section
variable (S : Js J) (B : Bs) (M : Nat → Bool) (W : WX)
/-- what is raised is taken -/
def XOut (g : Gh) (E : XP J) : Prop := ∀ e m' j' g' r' H' cls dx, E e m' j' → Same g.F g'.F → Ok S B g' M r' H' m' j' → ExR S g'.F e cls dx → W cls dx r' H'
def rdE (c : Cl) (f : Ev J) : TE := fun r H Q => ∃ g m j P E, Ok S B g M r H m j ∧ f m j P E ∧ (∀ d j' g' v H', P d j' → Le g g' → Ok S B g' M r H' m j' → Val S g g' c d v → Q v H') ∧ XOut S B M W g E
def rdT (f : Tv J) : TT := fun r H Q => ∃ g m j P E, Ok S B g M r H m j ∧ f m j P E ∧ (∀ d j' g' H', P d j' → Le g g' → Ok S B g' M r H' m j' → Q d H') ∧ XOut S B M W g E
/-- arguments: frozen (c = true), or seen -/
def hp (c : Bool) (g : Gh) : Hp := if c then g.F else g.G
def rdA (c : Bool) (f : Av J) : TA := fun r H Q => ∃ g m j P E, Ok S B g M r H m j ∧ f m j P E ∧ (∀ ds j' g' vs H', P ds j' → Le g g' → Ok S B g' M r H' m j' → RpL S (hp c g') ds vs → Q vs H') ∧ XOut S B M W g E
end
theorem XOut.le {S : Js J} {B : Bs} {M : Nat → Bool} {W : WX} {g g' : Gh} {E : XP J} (h : XOut S B M W g E) (l : Same g.F g'.F) : XOut S B M W g' E := fun e m j g2 r H cls dx he l2 => h e m j g2 r H cls dx he (l.trans l2)
def W0 : WX := fun _ _ _ _ => False
theorem takesW0 {X : Cx} : Takes X W0 := fun u s' ⟨a, B, sI, pins, σ, H, cls, d, e, I, nb, up, sky, na, os, ag, w⟩ => w.elim
def xNo : XP J := fun _ _ _ => False
theorem XOut.no {S : Js J} {B : Bs} {M : Nat → Bool} {W : WX} {g : Gh} : XOut S B M W g (xNo : XP J) := fun _ _ _ _ _ _ _ _ h => h.elim

theorem PE.imp {X : Cx} {e : Expr} {t t' : TE} (h : PE X e t) (i : ∀ r H Q, t' r H Q → t r H Q) : PE X e t' := ⟨fun pins s σ H Q I q => h.run pins s σ H Q I (i _ _ _ q)⟩
theorem PE.or {X : Cx} {e : Expr} {t t' : TE} (h : PE X e t) (h' : PE X e t') : PE X e (fun r H Q => t r H Q ∨ t' r H Q) := ⟨fun pins s σ H Q I q => q.elim (h.run pins s σ H Q I) (h'.run pins s σ H Q I)⟩
theorem PT.imp {X : Cx} {e : Expr} {t t' : TT} (h : PT X e t) (i : ∀ r H Q, t' r H Q → t r H Q) : PT X e t' := ⟨fun pins s σ H Q I q => h.run pins s σ H Q I (i _ _ _ q)⟩
theorem PW.imp {X : Cx} {e : Expr} {t t' : TT} (h : PW X e t) (i : ∀ r H Q, t' r H Q → t r H Q) : PW X e t' := ⟨fun wh pins s σ H Q I q => h.run wh pins s σ H Q I (i _ _ _ q)⟩
theorem PA.imp {X : Cx} {e : List Expr} {t t' : TA} (h : PA X e t) (i : ∀ r H Q, t' r H Q → t r H Q) : PA X e t' := ⟨fun p pins s σ H Q I q => h.run p pins s σ H Q I (i _ _ _ q)⟩
theorem PS.imp {X : Cx} {e : Stmt} {t t' : TS} (h : PS X e t) (i : ∀ D r H, t' D r H → t D r H) : PS X e t' := ⟨fun pins s σ H D I q => h.run pins s σ H D I (i _ _ _ q)⟩
theorem PSs.imp {X : Cx} {e : List Stmt} {t t' : TS} (h : PSs X e t) (i : ∀ D r H, t' D r H → t D r H) : PSs X e t' := ⟨fun pins s σ H D I q => h.run pins s σ H D I (i _ _ _ q)⟩
theorem PI.imp {X : Cx} {tg e : Expr} {t t' : TI} (h : PI X tg e t) (i : ∀ r H R, t' r H R → t r H R) : PI X tg e t' := ⟨fun pins s σ H R I q => h.run pins s σ H R I (i _ _ _ q)⟩
theorem PI.or {X : Cx} {tg e : Expr} {t t' : TI} (h : PI X tg e t) (h' : PI X tg e t') : PI X tg e (fun r H Q => t r H Q ∨ t' r H Q) := ⟨fun pins s σ H Q I q => q.elim (h.run pins s σ H Q I) (h'.run pins s σ H Q I)⟩

/-! ### combinators of expressions -/
def eVar (i : Nat) (m : Sd) (j : J) (P : D → J → Prop) (E : XP J) : Prop := ∃ d, m[i]? = some (some d) ∧ P d j
def eC (d : D) (m : Sd) (j : J) (P : D → J → Prop) (E : XP J) : Prop := P d j
def eOp (φ : D → D → Option D) (fa fb : Ev J) (m : Sd) (j : J) (P : D → J → Prop) (E : XP J) : Prop := fa m j (fun x j1 => fb m j1 (fun y j2 => ∃ z, φ x y = some z ∧ P z j2) E) E
def eUn (φ : D → Option D) (fa : Ev J) (m : Sd) (j : J) (P : D → J → Prop) (E : XP J) : Prop := fa m j (fun x j1 => ∃ z, φ x = some z ∧ P z j1) E
def aNil (m : Sd) (j : J) (P : List D → J → Prop) (E : XP J) : Prop := P [] j
def aCons (fa : Ev J) (fr : Av J) (m : Sd) (j : J) (P : List D → J → Prop) (E : XP J) : Prop := fa m j (fun x j1 => fr m j1 (fun xs j2 => P (x :: xs) j2) E) E
def LINE : Nat := 1000000
theorem line_ok : LINE ≤ sizeLine := by rw [sizeLine_eq]; decide
def eTup (f : Av J) (m : Sd) (j : J) (P : D → J → Prop) (E : XP J) : Prop := f m j (fun xs j1 => xs.length ≤ LINE ∧ P (.tup xs) j1) E
def eLst (f : Av J) (m : Sd) (j : J) (P : D → J → Prop) (E : XP J) : Prop := f m j (fun xs j1 => xs.length ≤ LINE ∧ P (.lst xs) j1) E
def eB (φ : List D → Option D) (fa : Av J) (m : Sd) (j : J) (P : D → J → Prop) (E : XP J) : Prop := fa m j (fun xs j1 => ∃ z, φ xs = some z ∧ P z j1) E
section
variable {φ : D → D → Option D} {ψ : D → Option D} {fa fb : Ev J} {fr : Av J} {d : D} {i : Nat} {χ : List D → Option D}
instance : MoE (eVar (J := J) i) := ⟨fun ⟨d, h, p⟩ q _ => ⟨d, h, q _ _ p⟩⟩
instance : MoE (eC (J := J) d) := ⟨fun p q _ => q _ _ p⟩
instance [ha : MoE fa] [hb : MoE fb] : MoE (eOp φ fa fb) := ⟨fun h q x => ha.mo h (fun _ _ h1 => hb.mo h1 (fun _ _ ⟨z, e, p⟩ => ⟨z, e, q _ _ p⟩) x) x⟩
instance [ha : MoE fa] : MoE (eUn ψ fa) := ⟨fun h q x => ha.mo h (fun _ _ ⟨z, e, p⟩ => ⟨z, e, q _ _ p⟩) x⟩
instance : MoA (aNil (J := J)) := ⟨fun p q _ => q _ _ p⟩
instance [ha : MoE fa] [hb : MoA fr] : MoA (aCons fa fr) := ⟨fun h q x => ha.mo h (fun _ _ h1 => hb.mo h1 (fun _ _ p => q _ _ p) x) x⟩
instance [hb : MoA fr] : MoE (eTup fr) := ⟨fun h q x => hb.mo h (fun _ _ p => ⟨p.1, q _ _ p.2⟩) x⟩
instance [hb : MoA fr] : MoE (eLst fr) := ⟨fun h q x => hb.mo h (fun _ _ p => ⟨p.1, q _ _ p.2⟩) x⟩
instance [hb : MoA fr] : MoE (eB χ fr) := ⟨fun h q x => hb.mo h (fun _ _ ⟨z, e, p⟩ => ⟨z, e, q _ _ p⟩) x⟩
end

section
variable {S : Js J} {B : Bs} {M : Nat → Bool} {W : WX} {X : Cx} {e a b c : Expr} {pos : Pos} {f fa fb fc : Ev J}
/-! ### classes -/
theorem toClean (h : PE X e (rdE S B M W .fresh f)) : PE X e (rdE S B M W .clean f) := PE.imp h fun r H Q ⟨g, m, j, P, E, ok, hf, q, x⟩ =>
  ⟨g, m, j, P, E, ok, hf, fun d j' g' v H' p le ok' ⟨a, ev, n, o⟩ => by
    subst ev
    exact q d j' _ _ H' p (le.ice n o.1) ⟨ok'.b.ice o.1, ok.s.ice le n o.1⟩ o.ice, x⟩
theorem toMix {k : Cl} (h : PE X e (rdE S B M W k f)) : PE X e (rdE S B M W .mix f) := PE.imp h fun r H Q ⟨g, m, j, P, E, ok, hf, q, x⟩ =>
  ⟨g, m, j, P, E, ok, hf, fun d j' g' v H' p le ok' w => q d j' g' v H' p le ok' (w.mix ok'.b.fg), x⟩
/-- as a part of an argument list: frozen or seen -/
def ofB (k : Bool) : Cl := if k then .clean else .mix
theorem rp_hp {g : Gh} {k : Bool} {g0 : Gh} {d : D} {v : V} (h : Val S g0 g (ofB k) d v) : Rp S (hp k g) d v := by
  cases k <;> exact h
theorem hp_le {g g' : Gh} (l : Le g g') (k : Bool) : Same (hp k g) (hp k g') := by
  cases k
  · exact l.g
  · exact l.f
theorem hp_g {g : Gh} (fg : Same g.F g.G) (k : Bool) : Same (hp k g) g.G := by
  cases k
  · exact Same.refl _
  · exact fg
/-! ### names, constants -/
theorem e_var {i : Nat} {x : Str} (hN : X.N[i]? = some x) (hv : Vis X.env.scope x) (hd : (x == ("__debug__" : Str)) = false) (hcd : (x == ("__classdict__" : Str)) = false) : PE X (.Name x pos) (rdE S B M W (ofB (!M i)) (eVar i)) := by
  refine PE.imp (pe_var hN hv hd hcd) fun r H Q ⟨g, m, j, P, E, ok, ⟨d, he, hp⟩, q, _⟩ => ?_
  cases hM : M i with
  | false =>
    obtain ⟨v, h1, h2⟩ := ok.s.fr i _ he hM
    exact ⟨v, h1, q d j g v H hp (Le.refl g) ok (by rw [hM]; exact h2)⟩
  | true =>
    obtain ⟨a, h1, h2⟩ := ok.s.ow i _ he hM
    exact ⟨_, h1, q d j g _ H hp (Le.refl g) ok (by rw [hM]; exact h2.rp ok.b.fg)⟩
/-- a constant, scalar -/
theorem e_c {v : V} {d : D} (h : PE X e (tC v)) (r : ∀ F, Rp S F d v) : PE X e (rdE S B M W .clean (eC d)) :=
  PE.imp h fun _ H Q ⟨g, m, j, P, E, ok, hf, q, _⟩ => q d j g v H hf (Le.refl g) ok (r _)

/-! ### operators by values -/
/-- φ tells the operator on data; ci: the arguments frozen or seen; co: the answer's class -/
def OpS (S : Js J) (r : R2) (φ : D → D → Option D) (ci : Bool) (co : Cl) : Prop :=
  ∀ (B : Bs) (g : Gh) (H : Hp) (j : J) (d1 d2 d : D) (v1 v2 : V) (Q : VK), OkB S B g H j → Rp S (hp ci g) d1 v1 → Rp S (hp ci g) d2 v2 → φ d1 d2 = some d →
    (∀ g' v H', Le g g' → OkB S B g' H' j → Val S g g' co d v → Q v H') → r v1 v2 H Q
def UnS (S : Js J) (r : V → Hp → VK → Prop) (φ : D → Option D) (ci : Bool) (co : Cl) : Prop :=
  ∀ (B : Bs) (g : Gh) (H : Hp) (j : J) (d1 d : D) (v1 : V) (Q : VK), OkB S B g H j → Rp S (hp ci g) d1 v1 → φ d1 = some d →
    (∀ g' v H', Le g g' → OkB S B g' H' j → Val S g g' co d v → Q v H') → r v1 H Q
theorem tOp_rd {r : R2} {φ : D → D → Option D} {ci : Bool} {co : Cl} (ho : OpS S r φ ci co) {R : St} {H : Hp} {Q : VK} (h : rdE S B M W co (eOp φ fa fb) R H Q) : tOp r (rdE S B M W (ofB ci) fa) (rdE S B M W (ofB ci) fb) R H Q := by
  obtain ⟨g, m, j, P, E, ok, hf, q, xo⟩ := h
  refine ⟨g, m, j, _, E, ok, hf, fun x j1 g1 v1 H1 p1 l1 ok1 w1 => ⟨g1, m, j1, _, E, ok1, p1, fun y j' g2 v2 H2 p2 l2 ok2 w2 => ?_, xo.le l1.f⟩, xo⟩
  obtain ⟨d, h3, p⟩ := p2
  exact ho B g2 H2 j' x y d v1 v2 Q ok2.b (rp_hp (w1.le l2)) (rp_hp w2) h3 fun g3 v H3 l3 ok3 w3 => q d j' g3 v H3 p ((l1.trans l2).trans l3) ⟨ok3, ok2.s.le l3⟩ (w3.back (l1.trans l2))
theorem e_bin {op : Operator} {r : R2} {φ : D → D → Option D} {ci : Bool} {co : Cl} (hr : OpR X (binaryOp op) r) (ho : OpS S r φ ci co) (ha : PE X a (rdE S B M W (ofB ci) fa)) (hb : PE X b (rdE S B M W (ofB ci) fb)) :
    PE X (.BinOp a op b pos) (rdE S B M W co (eOp φ fa fb)) := PE.imp (pe_op hr ha hb) fun _ _ _ h => tOp_rd ho h
theorem e_cmp {op : CmpOp} {r : R2} {φ : D → D → Option D} {ci : Bool} {co : Cl} (hr : OpR X (compareOp op) r) (ho : OpS S r φ ci co) (ha : PE X a (rdE S B M W (ofB ci) fa)) (hb : PE X b (rdE S B M W (ofB ci) fb)) (hm : behindInMarks op b = false) :
    PE X (.Compare a [op] [b] pos) (rdE S B M W co (eOp φ fa fb)) := PE.imp (pe_cmpR hr ha hb hm) fun _ _ _ h => tOp_rd ho h
theorem e_ix {r : R2} {φ : D → D → Option D} {ci : Bool} {co : Cl} (hr : IxR X r) (ho : OpS S r φ ci co) (ha : PE X a (rdE S B M W (ofB ci) fa)) (hb : PE X b (rdE S B M W (ofB ci) fb)) (hs : PlainIx b) :
    PE X (.Subscript a b pos) (rdE S B M W co (eOp φ fa fb)) := PE.imp (pe_ix hr ha hb hs) fun _ _ _ h => tOp_rd ho h
theorem e_un {op : UnaryOp} {r : V → Hp → VK → Prop} {φ : D → Option D} {ci : Bool} {co : Cl} (hr : UnR X (unaryOp op) r) (ho : UnS S r φ ci co) (ha : PE X a (rdE S B M W (ofB ci) fa)) : PE X (.UnaryOp op a pos) (rdE S B M W co (eUn φ fa)) :=
  PE.imp (pe_un hr ha) fun R H Q ⟨g, m, j, P, E, ok, hf, q, xo⟩ =>
    ⟨g, m, j, _, E, ok, hf, fun x j' g1 v1 H1 ⟨d, h3, p⟩ l1 ok1 w1 => ho B g1 H1 j' x d v1 Q ok1.b (rp_hp w1) h3 fun g3 v H3 l3 ok3 w3 => q d j' g3 v H3 p (l1.trans l3) ⟨ok3, ok1.s.le l3⟩ (w3.back l1), xo⟩

/-! ### argument lists -/
theorem a_nil {k : Bool} : PA X [] (rdA S B M W k aNil) := PA.imp pa_nil fun r H Q ⟨g, m, j, P, E, ok, hf, q, _⟩ => q [] j g [] H hf (Le.refl g) ok .nil
theorem a_cons {es : List Expr} {fr : Av J} {k : Bool} (ha : PE X e (rdE S B M W (ofB k) fa)) (hr : PA X es (rdA S B M W k fr)) (hs : starEach (e :: es) X.env = (false, eval e X.env) :: starEach es X.env) : PA X (e :: es) (rdA S B M W k (aCons fa fr)) :=
  PA.imp (pa_cons ha hr hs) fun r H Q ⟨g, m, j, P, E, ok, hf, q, xo⟩ =>
    ⟨g, m, j, _, E, ok, hf, fun x j1 g1 v1 H1 p1 l1 ok1 w1 => ⟨g1, m, _, _, E, ok1, p1, fun xs j2 g2 vs H2 p2 l2 ok2 w2 =>
      q _ _ g2 _ H2 p2 (l1.trans l2) ok2 (.cons ((rp_hp w1).mono (hp_le l2 k)) w2), xo.le l1.f⟩, xo⟩

/-! ### displays -/
theorem rp_newT {g : Gh} {k : Bool} {p : Addr} {o : Obj} {ds : List D} {vs : List V} (fg : Same g.F g.G) (n : g.G p = none) (ho : o.dict = none) (h : RpL S (hp k g) ds vs) : Val S g (if k then g.frz p (.frz o (.tup vs)) else g.see p (.frz o (.tup vs))) (ofB k) (.tup ds) (.ref p) := by
  cases k with
  | true => exact .tup (.inl ⟨o, upd_same, ho⟩) (h.mono (same_new (fg.free n)))
  | false => exact .tup (.inl ⟨o, upd_same, ho⟩) (h.mono (same_new n))
theorem e_tup {es : List Expr} {x1 : Nat} {fr : Av J} {k : Bool} (ha : PA X es (rdA S B M W k fr)) : PE X (.Tuple es x1 pos) (rdE S B M W (ofB k) (eTup fr)) :=
  PE.imp (pe_tupF ha) fun r H Q ⟨g, m, j, P, E, ok, hf, q, xo⟩ => by
    refine ⟨g, m, j, _, E, ok, hf, fun ds j1 g1 vs H1 ⟨hl, pp⟩ l1 ok1 w1 => ⟨by rw [← w1.length]; exact Nat.le_trans hl line_ok, fun p o np hdo => ?_⟩, xo⟩
    obtain ⟨n1, n2, n3, n4⟩ := ok1.b.hn np
    have l2 : Le g1 (if k then g1.frz p (.frz o (.tup vs)) else g1.see p (.frz o (.tup vs))) := by
      cases k
      · exact Le.see n2
      · exact Le.frz ok1.b.fg n2
    refine q _ _ _ _ _ pp (l1.trans l2) ⟨?_, ok1.s.le l2⟩ ((rp_newT ok1.b.fg n2 hdo w1).back l1)
    cases k
    · exact ok1.b.see _ np
    · exact ok1.b.frz _ np
/-- a list display with frozen items: fresh; with seen ones: seen -/
theorem e_lst {es : List Expr} {fr : Av J} (ha : PA X es (rdA S B M W true fr)) : PE X (.List es pos) (rdE S B M W .fresh (eLst fr)) :=
  PE.imp (pe_lst ha) fun r H Q ⟨g, m, j, P, E, ok, hf, q, xo⟩ => by
    refine ⟨g, m, j, _, E, ok, hf, fun ds j1 g1 vs H1 ⟨hl, pp⟩ l1 ok1 w1 => ⟨by rw [← w1.length]; exact Nat.le_trans hl line_ok, fun p np => ?_⟩, xo⟩
    obtain ⟨n1, n2, n3, n4⟩ := ok1.b.hn np
    have l2 : Le g1 (g1.see p (.lst vs)) := Le.see n2
    exact q _ _ _ _ _ pp (l1.trans l2) ⟨ok1.b.see _ np, ok1.s.le l2⟩ ⟨p, rfl, l1.g.free n2, n1, .inl ⟨_, vs, rfl, upd_same, w1⟩⟩
theorem e_lstM {es : List Expr} {fr : Av J} (ha : PA X es (rdA S B M W false fr)) : PE X (.List es pos) (rdE S B M W .mix (eLst fr)) :=
  PE.imp (pe_lst ha) fun r H Q ⟨g, m, j, P, E, ok, hf, q, xo⟩ => by
    refine ⟨g, m, j, _, E, ok, hf, fun ds j1 g1 vs H1 ⟨hl, pp⟩ l1 ok1 w1 => ⟨by rw [← w1.length]; exact Nat.le_trans hl line_ok, fun p np => ?_⟩, xo⟩
    obtain ⟨n1, n2, n3, n4⟩ := ok1.b.hn np
    have l2 : Le g1 (g1.see p (.lst vs)) := Le.see n2
    exact q _ _ _ _ _ pp (l1.trans l2) ⟨ok1.b.see _ np, ok1.s.le l2⟩ (.lst upd_same (w1.mono (same_new n2)))

/-! ### how an operator answers -/
/-- a scalar -/
theorem ans {g : Gh} {H : Hp} {j : J} {d : D} {v : V} {Q : VK} (k : OkB S B g H j) (q : ∀ g' v H', Le g g' → OkB S B g' H' j → Val S g g' .clean d v → Q v H') (r : ∀ F, Rp S F d v) : Q v H := q g v H (Le.refl g) k (r _)
/-- a part of what was there -/
theorem ansP {g : Gh} {H : Hp} {j : J} {d : D} {v : V} {Q : VK} {k : Bool} (ok : OkB S B g H j) (q : ∀ g' v H', Le g g' → OkB S B g' H' j → Val S g g' (ofB k) d v → Q v H') (r : Rp S (hp k g) d v) : Q v H :=
  q g v H (Le.refl g) ok (by cases k <;> exact r)
/-- a new tuple -/
theorem ansT {g : Gh} {H : Hp} {j : J} {ds : List D} {vs : List V} {Q : VK} {k : Bool} (ok : OkB S B g H j) (q : ∀ g' v H', Le g g' → OkB S B g' H' j → Val S g g' (ofB k) (.tup ds) v → Q v H') (r : RpL S (hp k g) ds vs) : NewT H vs Q := fun p o np hdo => by
  obtain ⟨n1, n2, n3, n4⟩ := ok.hn np
  refine q (if k then g.frz p (.frz o (.tup vs)) else g.see p (.frz o (.tup vs))) _ _ ?_ ?_ (rp_newT ok.fg n2 hdo r)
  · cases k
    · exact Le.see n2
    · exact Le.frz ok.fg n2
  · cases k
    · exact ok.see _ np
    · exact ok.frz _ np
/-- a new list -/
def ofL (k : Bool) : Cl := if k then .fresh else .mix
theorem ansL {g : Gh} {H : Hp} {j : J} {ds : List D} {vs : List V} {Q : VK} {k : Bool} (ok : OkB S B g H j) (q : ∀ g' v H', Le g g' → OkB S B g' H' j → Val S g g' (ofL k) (.lst ds) v → Q v H') (r : RpL S (hp k g) ds vs) {p : Addr} (np : H p = none) : Q (.ref p) (upd H p (.lst vs)) := by
  obtain ⟨n1, n2, n3, n4⟩ := ok.hn np
  refine q (g.see p (.lst vs)) _ _ (Le.see n2) (ok.see _ np) ?_
  cases k with
  | true => exact ⟨p, rfl, n2, n1, .inl ⟨ds, vs, rfl, upd_same, r⟩⟩
  | false => exact .lst upd_same (r.mono (same_new n2))
/-- .. frozen at once -/
theorem ansF {g : Gh} {H : Hp} {j : J} {ds : List D} {vs : List V} {Q : VK} {k : Bool} (ok : OkB S B g H j) (q : ∀ g' v H', Le g g' → OkB S B g' H' j → Val S g g' (ofB k) (.lst ds) v → Q v H') (r : RpL S (hp k g) ds vs) {p : Addr} (np : H p = none) : Q (.ref p) (upd H p (.lst vs)) := by
  obtain ⟨n1, n2, n3, n4⟩ := ok.hn np
  cases k with
  | true => exact q (g.frz p (.lst vs)) _ _ (Le.frz ok.fg n2) (ok.frz _ np) (.lst upd_same (r.mono (same_new n1)))
  | false => exact q (g.see p (.lst vs)) _ _ (Le.see n2) (ok.see _ np) (.lst upd_same (r.mono (same_new n2)))
end
end Mp

/-! Mp3: the operators on data. -/
namespace Mp
open PySem PySem.Spec L2
variable {J : Type}

/-! ### whole numbers of a fair size -/
def BIG : Int := 10 ^ 60
def sm (i : Int) : Bool := decide (-BIG < i ∧ i < BIG)
theorem sm_iff {i : Int} : sm i = true ↔ -(10 ^ 60) < i ∧ i < 10 ^ 60 := by unfold sm BIG; simp
theorem sm_nat {i : Int} (h : sm i = true) : i.natAbs < 2 ^ 200 := by
  have h := sm_iff.mp h
  have : (10 ^ 60 : Nat) < 2 ^ 200 := by decide
  omega
theorem sm_log {i : Int} (h : sm i = true) : i.natAbs.log2 < 200 := PySem.Flt.log2_lt_of (by decide) (sm_nat h)

def addD : D → D → Option D
  | .int i, .int k => some (.int (i + k))
  | .str x, .str y => if x.length + y.length ≤ LINE then some (.str (x ++ y)) else none
  | .lst xs, .lst ys => if xs.length + ys.length ≤ LINE then some (.lst (xs ++ ys)) else none
  | .tup xs, .tup ys => if xs.length + ys.length ≤ LINE then some (.tup (xs ++ ys)) else none
  | _, _ => none
/-- of two lists alone -/
def addL : D → D → Option D
  | .lst xs, .lst ys => if xs.length + ys.length ≤ LINE then some (.lst (xs ++ ys)) else none
  | _, _ => none
def subD : D → D → Option D
  | .int i, .int k => some (.int (i - k))
  | _, _ => none
def rep (n : Nat) (xs : List D) : List D := (List.replicate n xs).flatten
def mulD : D → D → Option D
  | .int i, .int k => if sm i && sm k then some (.int (i * k)) else none
  | .lst xs, .int k => if decide (k ≤ 1000000) && decide (xs.length * k.toNat ≤ LINE) && decide (-1000000 ≤ k) then some (.lst (rep k.toNat xs)) else none
  | _, _ => none
def mulL : D → D → Option D
  | .lst xs, .int k => if decide (k ≤ 1000000) && decide (xs.length * k.toNat ≤ LINE) && decide (-1000000 ≤ k) then some (.lst (rep k.toNat xs)) else none
  | _, _ => none
def fdivD : D → D → Option D
  | .int i, .int k => if decide (0 < k) && sm k then some (.int (i / k)) else none
  | _, _ => none
def modD : D → D → Option D
  | .int i, .int k => if decide (0 < k) then some (.int (i % k)) else none
  | _, _ => none
def powD : D → D → Option D
  | .int i, .int k => if decide (0 ≤ k) && decide (k ≤ 1000) && decide (-(2 ^ 62) < i) && decide (i < 2 ^ 62) then some (.int (i ^ k.toNat)) else none
  | _, _ => none
def negD : D → Option D
  | .int i => some (.int (-i))
  | _ => none

section
variable {S : Js J} {B : Bs} {M : Nat → Bool} {X : Cx} {e a b c : Expr} {pos : Pos} {f fa fb fc : Ev J}
theorem RpL.nil_iff {F : Hp} {ds : List D} {vs : List V} (h : RpL S F ds vs) : ds = [] ↔ vs = [] := by
  cases h with
  | nil => simp
  | cons _ _ => simp
theorem RpL.rep {F : Hp} {ds : List D} {vs : List V} (h : RpL S F ds vs) : ∀ n, RpL S F (rep n ds) (List.replicate n vs).flatten
  | 0 => .nil
  | n + 1 => by
    unfold Mp.rep
    rw [List.replicate_succ, List.replicate_succ, List.flatten_cons, List.flatten_cons]
    exact h.append (RpL.rep h n)
theorem tup_of {F : Hp} {ds : List D} {v : V} (h : Rp S F (.tup ds) v) : ∃ a vs, v = .ref a ∧ SqF S.K F a vs ∧ RpL S F ds vs := by cases h; exact ⟨_, _, rfl, by assumption, by assumption⟩
theorem lst_of {F : Hp} {ds : List D} {v : V} (h : Rp S F (.lst ds) v) : ∃ a vs, v = .ref a ∧ F a = some (.lst vs) ∧ RpL S F ds vs := by cases h; exact ⟨_, _, rfl, by assumption, by assumption⟩
theorem int_of {F : Hp} {i : Int} {v : V} (h : Rp S F (.int i) v) : v = .int i := by cases h; rfl
theorem bl_of {F : Hp} {i : Bool} {v : V} (h : Rp S F (.bl i) v) : v = .bl i := by cases h; rfl
theorem str_of {F : Hp} {i : Str} {v : V} (h : Rp S F (.str i) v) : v = .str i := by cases h; rfl
theorem non_of {F : Hp} {v : V} (h : Rp S F .non v) : v = .non := by cases h; rfl
theorem OkB.sub {g : Gh} {H : Hp} {j : J} (k : OkB S B g H j) (ci : Bool) : Same (hp ci g) H := (hp_g k.fg ci).trans k.gh

/-- the union of the four sums -/
def rAddD (K : PySem.W.Frag) : R2 := fun x y H Q => (rI0 (fun i j => .int (i + j)) x y H Q) ∨ (∃ i j, x = .str i ∧ y = .str j ∧ i.length + j.length ≤ sizeLine ∧ Q (.str (i ++ j)) H) ∨ rCat x y H Q ∨ rCatF K x y H Q
theorem op_addD : OpR X (binaryOp .Add) (rAddD X.K) := op_add.or (op_add_str.or (op_cat.or op_catF))
theorem s_add {ci : Bool} : OpS S (rAddD S.K) addD ci (ofB ci) := by
  intro B g H j d1 d2 d v1 v2 Q ok h1 h2 e q
  unfold addD at e
  split at e
  · cases e; rw [int_of h1, int_of h2]
    exact .inl ⟨_, _, rfl, rfl, q g _ H (Le.refl g) ok (by cases ci <;> exact .int _)⟩
  · split at e
    · rename_i hl
      cases e; rw [str_of h1, str_of h2]
      exact .inr (.inl ⟨_, _, rfl, rfl, Nat.le_trans hl line_ok, q g _ H (Le.refl g) ok (by cases ci <;> exact .str _)⟩)
    · cases e
  · split at e
    · rename_i xs ys hl
      cases e
      obtain ⟨a, vs, rfl, ha, ra⟩ := lst_of h1
      obtain ⟨b, ws, rfl, hb, rb⟩ := lst_of h2
      refine .inr (.inr (.inl ⟨a, b, vs, ws, rfl, rfl, ok.sub ci _ _ ha, ok.sub ci _ _ hb, ?_, fun p np => ansF (B := B) ok q (ra.append rb) np⟩))
      rw [← ra.length, ← rb.length]; exact Nat.le_trans hl line_ok
    · cases e
  · split at e
    · rename_i xs ys hl
      cases e
      obtain ⟨a, vs, rfl, ha, ra⟩ := tup_of h1
      obtain ⟨b, ws, rfl, hb, rb⟩ := tup_of h2
      refine .inr (.inr (.inr ⟨a, b, vs, ws, rfl, rfl, sqT_same (ok.sub ci) ha.t, sqT_same (ok.sub ci) hb.t, ?_, fun z => ?_, fun z z' => ?_, fun _ _ => ansT (B := B) ok q (ra.append rb)⟩))
      · rw [← ra.length, ← rb.length]; exact Nat.le_trans hl line_ok
      · obtain rfl := ra.nil_iff.mpr z
        exact ansP (B := B) ok q h2
      · obtain rfl := rb.nil_iff.mpr z'
        rw [List.append_nil] at q
        exact ansP (B := B) ok q h1
    · cases e
  · cases e
theorem s_addL {ci : Bool} : OpS S rCat addL ci (ofL ci) := by
  intro B g H j d1 d2 d v1 v2 Q ok h1 h2 e q
  unfold addL at e
  split at e
  · split at e
    · rename_i xs ys hl
      cases e
      obtain ⟨a, vs, rfl, ha, ra⟩ := lst_of h1
      obtain ⟨b, ws, rfl, hb, rb⟩ := lst_of h2
      refine ⟨a, b, vs, ws, rfl, rfl, ok.sub ci _ _ ha, ok.sub ci _ _ hb, ?_, fun p np => ansL (B := B) ok q (ra.append rb) np⟩
      rw [← ra.length, ← rb.length]; exact Nat.le_trans hl line_ok
    · cases e
  · cases e
theorem s_sub {ci : Bool} : OpS S (rI0 fun i j => .int (i - j)) subD ci .clean := by
  intro B g H j d1 d2 d v1 v2 Q ok h1 h2 e q
  unfold subD at e
  split at e
  · cases e; rw [int_of h1, int_of h2]
    exact ⟨_, _, rfl, rfl, ans (B := B) ok q fun _ => .int _⟩
  · cases e
def rMulD : R2 := fun x y H Q => rI CMulW (fun i j => .int (i * j)) x y H Q ∨ rRep x y H Q
theorem op_mulD : OpR X (binaryOp .Mult) rMulD := op_mulW.or op_rep
theorem s_mul {ci : Bool} : OpS S rMulD mulD ci (ofB ci) := by
  intro B g H j d1 d2 d v1 v2 Q ok h1 h2 e q
  unfold mulD at e
  split at e
  · split at e
    · rename_i hc
      rw [Bool.and_eq_true] at hc
      cases e; rw [int_of h1, int_of h2]
      exact .inl ⟨_, _, rfl, rfl, wide_mul (sm_nat hc.1) (sm_nat hc.2) (by decide) (by decide) (by decide), q g _ H (Le.refl g) ok (by cases ci <;> exact .int _)⟩
    · cases e
  · split at e
    · rename_i xs k hc
      simp only [Bool.and_eq_true, decide_eq_true_eq] at hc
      cases e; rw [int_of h2]
      obtain ⟨a, vs, rfl, ha, ra⟩ := lst_of h1
      refine .inr ⟨a, k, vs, rfl, rfl, ok.sub ci _ _ ha, by omega, by omega, ?_, fun p np => ansF (B := B) ok q (ra.rep _) np⟩
      rw [← ra.length]; exact Nat.le_trans hc.1.2 line_ok
    · cases e
  · cases e
theorem s_mulL {ci : Bool} : OpS S rRep mulL ci (ofL ci) := by
  intro B g H j d1 d2 d v1 v2 Q ok h1 h2 e q
  unfold mulL at e
  split at e
  · split at e
    · rename_i xs k hc
      simp only [Bool.and_eq_true, decide_eq_true_eq] at hc
      cases e; rw [int_of h2]
      obtain ⟨a, vs, rfl, ha, ra⟩ := lst_of h1
      refine ⟨a, k, vs, rfl, rfl, ok.sub ci _ _ ha, by omega, by omega, ?_, fun p np => ansL (B := B) ok q (ra.rep _) np⟩
      rw [← ra.length]; exact Nat.le_trans hc.1.2 line_ok
    · cases e
  · cases e
theorem s_fdiv {ci : Bool} : OpS S (rI CDivW fun i j => .int (i / j)) fdivD ci .clean := by
  intro B g H j d1 d2 d v1 v2 Q ok h1 h2 e q
  unfold fdivD at e
  split at e
  · split at e
    · rename_i hc
      rw [Bool.and_eq_true, decide_eq_true_eq] at hc
      cases e; rw [int_of h1, int_of h2]
      exact ⟨_, _, rfl, rfl, wide_div hc.1 (sm_nat hc.2) (by decide) (by decide), ans (B := B) ok q fun _ => .int _⟩
    · cases e
  · cases e
theorem s_mod {ci : Bool} : OpS S (rI (fun _ j => 0 < j) fun i j => .int (i % j)) modD ci .clean := by
  intro B g H j d1 d2 d v1 v2 Q ok h1 h2 e q
  unfold modD at e
  split at e
  · split at e
    · rename_i hc
      rw [decide_eq_true_eq] at hc
      cases e; rw [int_of h1, int_of h2]
      exact ⟨_, _, rfl, rfl, hc, ans (B := B) ok q fun _ => .int _⟩
    · cases e
  · cases e
theorem s_pow {ci : Bool} : OpS S (rI CPow fun i j => .int (i ^ j.toNat)) powD ci .clean := by
  intro B g H j d1 d2 d v1 v2 Q ok h1 h2 e q
  unfold powD at e
  split at e
  · split at e
    · rename_i hc
      simp only [Bool.and_eq_true, decide_eq_true_eq] at hc
      cases e; rw [int_of h1, int_of h2]
      exact ⟨_, _, rfl, rfl, ⟨hc.1.1.1, by omega, by omega⟩, ans (B := B) ok q fun _ => .int _⟩
    · cases e
  · cases e
theorem s_neg {ci : Bool} : UnS S (rU fun i => .int (-i)) negD ci .clean := by
  intro B g H j d1 d v1 Q ok h1 e q
  unfold negD at e
  split at e
  · cases e; rw [int_of h1]
    exact ⟨_, rfl, ans (B := B) ok q fun _ => .int _⟩
  · cases e

/-! ### comparisons of ints -/
def cmpD (p : Int → Int → Bool) : D → D → Option D
  | .int i, .int k => some (.bl (p i k))
  | _, _ => none
theorem s_cmp {p : Int → Int → Bool} {ci : Bool} : OpS S (rI0 fun i j => .bl (p i j)) (cmpD p) ci .clean := by
  intro B g H j d1 d2 d v1 v2 Q ok h1 h2 e q
  unfold cmpD at e
  split at e
  · cases e; rw [int_of h1, int_of h2]
    exact ⟨_, _, rfl, rfl, ans (B := B) ok q fun _ => .bl _⟩
  · cases e
/-- is None -/
def isND : D → D → Option D
  | .non, .non => some (.bl true)
  | .jar, _ => none
  | _, .non => some (.bl false)
  | _, _ => none
def notND : D → D → Option D
  | .non, .non => some (.bl false)
  | .jar, _ => none
  | _, .non => some (.bl true)
  | _, _ => none
theorem ne_non {F : Hp} {d : D} {v : V} (h : Rp S F d v) (hd : d ≠ .non) (hj : d ≠ .jar) : v ≠ .non := by
  intro e; subst e
  generalize hv : V.non = v at h
  cases h <;> first | exact hd rfl | exact hj rfl | cases hv
theorem s_isN {ci : Bool} : OpS S (fun x y H Q => y = .non ∧ Q (.bl (decide (x = .non))) H) isND ci .clean := by
  intro B g H j d1 d2 d v1 v2 Q ok h1 h2 e q
  unfold isND at e
  split at e
  · cases e; rw [non_of h1, non_of h2]
    exact ⟨rfl, ans (B := B) ok q fun _ => .bl _⟩
  · cases e
  · rename_i _ hn hj
    cases e; rw [non_of h2]
    refine ⟨rfl, ?_⟩
    rw [decide_eq_false (ne_non h1 hn hj)]
    exact ans (B := B) ok q fun _ => .bl _
  · cases e
theorem s_notN {ci : Bool} : OpS S (fun x y H Q => y = .non ∧ Q (.bl (!decide (x = .non))) H) notND ci .clean := by
  intro B g H j d1 d2 d v1 v2 Q ok h1 h2 e q
  unfold notND at e
  split at e
  · cases e; rw [non_of h1, non_of h2]
    exact ⟨rfl, ans (B := B) ok q fun _ => .bl _⟩
  · cases e
  · rename_i _ hn hj
    cases e; rw [non_of h2]
    refine ⟨rfl, ?_⟩
    rw [decide_eq_false (ne_non h1 hn hj)]
    exact ans (B := B) ok q fun _ => .bl _
  · cases e
end

/-! ### data as the model's own -/
mutual
def py : D → Option PyData
  | .non => some .none
  | .bl b => some (.bool b)
  | .int i => some (.int i)
  | .str x => some (.str x)
  | .tup xs => match pyL xs with | some ys => some (.tuple ys) | none => none
  | .lst xs => match pyL xs with | some ys => some (.list ys) | none => none
  | .dct kvs => match pyK kvs with | some ys => some (.dict ys) | none => none
  | _ => none
def pyL : List D → Option (List PyData)
  | [] => some []
  | x :: xs => match py x, pyL xs with | some y, some ys => some (y :: ys) | _, _ => none
def pyK : List (Key × D) → Option (List (PyData × PyData))
  | [] => some []
  | (k, x) :: xs => match py x, pyK xs with | some y, some ys => some ((match k with | .inl i => .int i | .inr s => .str s, y) :: ys) | _, _ => none
end
section
variable {S : Js J} {F : Hp}
mutual
theorem dp_of : ∀ {d : D} {v : V} {p : PyData}, Rp S F d v → py d = some p → p.hasDict = false → Dp S.K F v p
  | _, _, _, .non, e, _ => by unfold py at e; cases e; exact .non
  | _, _, _, .bl b, e, _ => by unfold py at e; cases e; exact .bl b
  | _, _, _, .int b, e, _ => by unfold py at e; cases e; exact .int b
  | _, _, _, .str b, e, _ => by unfold py at e; cases e; exact .str b
  | _, _, _, .tup h t, e, n => by
    unfold py at e
    split at e
    · cases e
      exact .tup h.t (dpl_of t (by assumption) (by simpa [PyData.hasDict] using n))
    · cases e
  | _, _, _, .lst h t, e, n => by
    unfold py at e
    split at e
    · cases e
      exact .lst (.of h) (dpl_of t (by assumption) (by simpa [PyData.hasDict] using n))
    · cases e
  | _, _, _, .dct h l t, e, n => by
    unfold py at e
    split at e
    · cases e
      simp [PyData.hasDict] at n
    · cases e
  | _, _, _, .jar, e, _ => by unfold py at e; cases e
  | _, _, _, .ins _ _ _, e, _ => by unfold py at e; cases e
theorem dpl_of : ∀ {ds : List D} {vs : List V} {ps : List PyData}, RpL S F ds vs → pyL ds = some ps → PyData.hasDictAll ps = false → DpAll S.K F vs ps
  | _, _, _, .nil, e, _ => by unfold pyL at e; cases e; exact .nil
  | _, _, _, .cons h t, e, n => by
    unfold pyL at e
    split at e
    · cases e
      simp only [PyData.hasDictAll, Bool.or_eq_false_iff] at n
      exact .cons (dp_of h (by assumption) n.1) (dpl_of t (by assumption) n.2)
    · cases e
end
end
mutual
theorem Dp_mono {K : PySem.W.Frag} {F G : Hp} (s : Same F G) : ∀ {p : PyData} {v : V}, Dp K F v p → Dp K G v p
  | _, _, .non => .non
  | _, _, .bl b => .bl b
  | _, _, .int b => .int b
  | _, _, .str b => .str b
  | _, _, .lst h t => .lst (sqL_same s h) (DpAll_mono s t)
  | _, _, .tup h t => .tup (sqT_same s h) (DpAll_mono s t)
theorem DpAll_mono {K : PySem.W.Frag} {F G : Hp} (s : Same F G) : ∀ {p : List PyData} {v : List V}, DpAll K F v p → DpAll K G v p
  | _, _, .nil => .nil
  | _, _, .cons h t => .cons (Dp_mono s h) (DpAll_mono s t)
end

/-- == of data without dicts -/
def eqP (x y : D) : Option Bool := match py x, py y with
  | some p, some q => if SeqAt.shaped p && SeqAt.shaped q then some (PyData.eqv p q) else none
  | _, _ => none
def eqB : D → D → Option Bool
  | .int i, .int k => some (decide (i = k))
  | .str i, .str k => some (decide (i = k))
  | .bl i, .bl k => some (decide (i = k))
  | x, y => eqP x y
def eqD (x y : D) : Option D := match eqB x y with | some b => some (.bl b) | none => none
def neD (x y : D) : Option D := match eqB x y with | some b => some (.bl (!b)) | none => none
theorem noDict {p : PyData} (h : SeqAt.shaped p = true) : p.hasDict = false := PyData.hasDict_of_canLay _ (SeqAt.canLay_of_shaped h)
def rEqE (K : PySem.W.Frag) : R2 := fun x y H Q => rEq x y H Q ∨ rEqD K x y H Q
def rNeE (K : PySem.W.Frag) : R2 := fun x y H Q => rNe x y H Q ∨ rNeD K x y H Q
section
variable {S : Js J} {X : Cx}
theorem op_eqE (hu : X.A.units + 64 < cLine) : OpR X (compareOp .Eq) (rEqE X.K) := op_eq.or (op_eqD hu)
theorem op_neE (hu : X.A.units + 64 < cLine) : OpR X (compareOp .NotEq) (rNeE X.K) := op_ne.or (op_neD hu)
/-- what is known of two things that are compared -/
theorem eqB_cases {F : Hp} {d1 d2 : D} {v1 v2 : V} {b : Bool} (h1 : Rp S F d1 v1) (h2 : Rp S F d2 v2) (e : eqB d1 d2 = some b) : (scal v1 v2 = true ∧ decide (v1 = v2) = b) ∨ ∃ p q, Dp S.K F v1 p ∧ Dp S.K F v2 q ∧ SeqAt.shaped p = true ∧ SeqAt.shaped q = true ∧ PyData.eqv p q = b := by
  unfold eqB at e
  split at e
  · cases e
    rw [int_of h1, int_of h2]
    exact .inl ⟨rfl, by rw [Bool.eq_iff_iff]; simp⟩
  · cases e
    rw [str_of h1, str_of h2]
    exact .inl ⟨rfl, by rw [Bool.eq_iff_iff]; simp⟩
  · cases e
    rw [bl_of h1, bl_of h2]
    exact .inl ⟨rfl, by rw [Bool.eq_iff_iff]; simp⟩
  · unfold eqP at e
    split at e
    · split at e
      · rename_i p q' hp hq hs
        rw [Bool.and_eq_true] at hs
        cases e
        exact .inr ⟨p, q', dp_of h1 hp (noDict hs.1), dp_of h2 hq (noDict hs.2), hs.1, hs.2, rfl⟩
      · cases e
    · cases e
theorem s_eq {ci : Bool} : OpS S (rEqE S.K) eqD ci .clean := by
  intro B g H j d1 d2 d v1 v2 Q ok h1 h2 e q
  unfold eqD at e
  split at e
  · rename_i b he
    cases e
    rcases eqB_cases h1 h2 he with ⟨c1, c2⟩ | ⟨p, q', c1, c2, c3, c4, c5⟩
    · exact .inl ⟨c1, by rw [c2]; exact ans (B := B) ok q fun _ => .bl _⟩
    · exact .inr ⟨p, q', Dp_mono (ok.sub ci) c1, Dp_mono (ok.sub ci) c2, c3, c4, by rw [c5]; exact ans (B := B) ok q fun _ => .bl _⟩
  · cases e
theorem s_ne {ci : Bool} : OpS S (rNeE S.K) neD ci .clean := by
  intro B g H j d1 d2 d v1 v2 Q ok h1 h2 e q
  unfold neD at e
  split at e
  · rename_i b he
    cases e
    rcases eqB_cases h1 h2 he with ⟨c1, c2⟩ | ⟨p, q', c1, c2, c3, c4, c5⟩
    · exact .inl ⟨c1, by rw [c2]; exact ans (B := B) ok q fun _ => .bl _⟩
    · exact .inr ⟨p, q', Dp_mono (ok.sub ci) c1, Dp_mono (ok.sub ci) c2, c3, c4, by rw [c5]; exact ans (B := B) ok q fun _ => .bl _⟩
  · cases e
/-! ### items -/
def idxD : D → D → Option D
  | .lst xs, .int i => atI xs i
  | .tup xs, .int i => atI xs i
  | .str z, .int i => if z.length ≤ LINE then (atI z.cps.toList i).map fun c => .str ⟨#[c]⟩ else none
  | _, _ => none
theorem RpL.atI {F : Hp} {ds : List D} {vs : List V} {i : Int} {d : D} (h : RpL S F ds vs) (e : L2.atI ds i = some d) : ∃ v, L2.atI vs i = some v ∧ Rp S F d v := by
  unfold L2.atI at e ⊢
  rw [← h.length]
  cases q : ixN ds.length i with
  | none => rw [q] at e; cases e
  | some k =>
    rw [q] at e
    exact h.get e
theorem s_idx {ci : Bool} : OpS S (rIx S.K) idxD ci (ofB ci) := by
  intro B g H j d1 d2 d v1 v2 Q ok h1 h2 e q
  unfold idxD at e
  split at e
  · rw [int_of h2]
    obtain ⟨a, vs, rfl, ha, ra⟩ := lst_of h1
    obtain ⟨v, e1, r1⟩ := ra.atI e
    exact .inl ⟨a, vs, _, v, rfl, rfl, .of (ok.sub ci _ _ ha), e1, ansP (B := B) ok q r1⟩
  · rw [int_of h2]
    obtain ⟨a, vs, rfl, ha, ra⟩ := tup_of h1
    obtain ⟨v, e1, r1⟩ := ra.atI e
    exact .inr (.inl ⟨a, vs, _, v, rfl, rfl, sqT_same (ok.sub ci) ha.t, e1, ansP (B := B) ok q r1⟩)
  · split at e
    · rename_i z i hl
      rw [int_of h2, str_of h1]
      cases hc : L2.atI z.cps.toList i with
      | none => rw [hc] at e; cases e
      | some c =>
        rw [hc] at e
        cases e
        exact .inr (.inr ⟨z, i, c, rfl, rfl, Nat.le_trans hl line_ok, hc, q g _ H (Le.refl g) ok (by cases ci <;> exact .str _)⟩)
    · cases e
  · cases e
end
end Mp

/-! MpR: repr of data. -/
namespace Mp
open PySem PySem.Spec PyProof.Rows L2
/-! ### repr of data -/
section
variable {J : Type} {S : Js J} {X : Cx} {pins : List (Addr × Obj)} {σ : L2.St} {H G : Hp} {s : Shared}
theorem pairs_keys {P : Program} {w : World} : ∀ {es : List DictEntry} {kvs : List (Key × Value)} {kds : List (Key × D)} {ps : List (PyData × PyData)}, PySem.Pairs (mixKind P w) es kvs → kds.map Prod.fst = kvs.map Prod.fst → pyK kds = some ps → ∀ h : Heap, ReadsAll h (es.map (·.key)) (ps.map (·.1)) [] := by
  intro es kvs kds ps hp
  induction hp generalizing kds ps with
  | nil =>
    intro hk e h
    cases kds with
    | nil => unfold pyK at e; cases e; exact .nil
    | cons _ _ => simp at hk
  | cons h1 h2 h3 ih =>
    intro hk e h
    cases kds with
    | nil => simp at hk
    | cons kd kds =>
      obtain ⟨k, d⟩ := kd
      simp only [List.map_cons, List.cons.injEq] at hk
      unfold pyK at e
      split at e
      · cases e
        have := ih hk.2 (by assumption) h
        rw [List.map_cons, List.map_cons]
        have e1 : k = _ := hk.1
        subst e1
        refine ReadsAll.cons (as := []) (bs := []) ?_ this
        rcases keyIs_shape h1 with ⟨i, t, e2, e3⟩ | ⟨x, t, e2, e3⟩
        · rw [e2, e3]; exact .int i t
        · rw [e2, e3]; exact .str x t
      · cases e

theorem pairs_vals {P : Program} {w : World} {kvs : List (Key × V)} {us : List (Key × Value)} {es : List DictEntry} (hp : PySem.Pairs (mixKind P w) es us) (r : KV kvs us) : Vals (kvs.map Prod.snd) (es.map (·.val)) ∧ kvs.map Prod.fst = us.map Prod.fst := by
  induction hp generalizing kvs with
  | nil => cases r; exact ⟨.nil, rfl⟩
  | cons h1 h2 h3 ih =>
    cases r with
    | cons r1 r2 =>
      obtain ⟨i1, i2⟩ := ih r2
      rw [List.map_cons, List.map_cons, List.map_cons, List.map_cons, i2, r1.1, h2]
      exact ⟨.cons r1.2 i1, rfl⟩
theorem pyK_vals : ∀ {kds : List (Key × D)} {ps : List (PyData × PyData)}, pyK kds = some ps → pyL (kds.map Prod.snd) = some (ps.map (·.2))
  | [], _, e => by unfold pyK at e; cases e; rfl
  | (k, d) :: kds, _, e => by
    unfold pyK at e
    split at e
    · rename_i h1 h2
      cases e
      have := pyK_vals h2
      rw [List.map_cons]
      unfold pyL
      rw [h1, this]
      rfl
    · cases e
def NoSm (as : List Addr) : Prop := sysModules ∉ as
theorem noSm_at {H : Hp} (sm : ∃ o u, H sysModules = some (.frz o u)) {a : Addr} {o : HO} (h : H a = some o) (hn : ∀ x y, o ≠ .frz x y) : a ≠ sysModules := by
  obtain ⟨o1, u1, e⟩ := sm
  intro z
  rw [z, e] at h
  cases h
  exact hn _ _ rfl
mutual
theorem reads_of (I : Inv X pins σ H s) (hK : X.K = S.K) (gh : Same G H) (sm : ∃ o u, H sysModules = some (.frz o u)) : ∀ {d : D} {v : V} {p : PyData} {u : Value}, Rp S G d v → py d = some p → RelV v u → ∃ as, Reads s.heap u p as ∧ sysModules ∉ as
  | _, _, _, _, .non, e, r => by unfold py at e; cases e; cases r; exact ⟨_, .none, by simp⟩
  | _, _, _, _, .bl b, e, r => by unfold py at e; cases e; cases r; exact ⟨_, .bool b, by simp⟩
  | _, _, _, _, .int b, e, r => by unfold py at e; cases e; obtain ⟨t, rfl⟩ := r; exact ⟨_, .int b t, by simp⟩
  | _, _, _, _, .str b, e, r => by unfold py at e; cases e; obtain ⟨t, rfl⟩ := r; exact ⟨_, .str b t, by simp⟩
  | _, _, _, _, .tup h t, e, r => by
    unfold py at e
    split at e
    · cases e
      cases r
      obtain ⟨its, rv, ⟨o, ho, hc, n, hd⟩, _⟩ := I.tuple (by rw [hK]; exact sqT_same gh h.t)
      obtain ⟨as, h1, h2⟩ := readsL_of I hK gh sm t (by assumption) rv
      exact ⟨_, .tuple ho hc hd h1, h2⟩
    · cases e
  | _, _, _, _, .lst h t, e, r => by
    unfold py at e
    split at e
    · cases e
      cases r
      obtain ⟨its, rv, ⟨o, n, ho, hc, _, hd⟩, _⟩ := I.list (SqL.of (gh _ _ h))
      obtain ⟨as, h1, h2⟩ := readsL_of I hK gh sm t (by assumption) rv
      refine ⟨_, .list ho hc hd h1, ?_⟩
      simp only [List.mem_cons, not_or]
      exact ⟨(noSm_at sm (gh _ _ h) (by intro x y z; cases z)).symm, h2⟩
    · cases e
  | _, _, _, _, .dct h l t, e, r => by
    unfold py at e
    split at e
    · rename_i ps hps
      cases e
      cases r
      obtain ⟨_, _, vs, kv, o, es, ep, ho, hx, hd, _, hp, _⟩ := dk_of I.hok (gh _ _ h)
      obtain ⟨q1, q2⟩ := pairs_vals hp kv
      obtain ⟨as, h1, h2⟩ := readsL_of I hK gh sm t (pyK_vals hps) q1
      refine ⟨_, .dict ho hx.1 hd (pairs_keys hp (l.trans q2) hps s.heap) h1, ?_⟩
      simp only [List.cons_append, List.nil_append, List.mem_cons, not_or]
      exact ⟨(noSm_at sm (gh _ _ h) (by intro x y z; cases z)).symm, h2⟩
    · cases e
  | _, _, _, _, .jar, e, r => by unfold py at e; cases e
  | _, _, _, _, .ins _ _ _, e, r => by unfold py at e; cases e
theorem readsL_of (I : Inv X pins σ H s) (hK : X.K = S.K) (gh : Same G H) (sm : ∃ o u, H sysModules = some (.frz o u)) : ∀ {ds : List D} {vs : List V} {ps : List PyData} {us : List Value}, RpL S G ds vs → pyL ds = some ps → Vals vs us → ∃ as, ReadsAll s.heap us ps as ∧ sysModules ∉ as
  | _, _, _, _, .nil, e, r => by unfold pyL at e; cases e; cases r; exact ⟨_, .nil, by simp⟩
  | _, _, _, _, .cons h t, e, r => by
    unfold pyL at e
    split at e
    · cases e
      cases r with
      | cons r1 r2 =>
        obtain ⟨as, h1, h2⟩ := reads_of I hK gh sm h (by assumption) r1
        obtain ⟨bs, h3, h4⟩ := readsL_of I hK gh sm t (by assumption) r2
        exact ⟨_, .cons h1 h3, by simp only [List.mem_append, not_or]; exact ⟨h2, h4⟩⟩
    · cases e
end
/-- repr(x), x data -/
def reprD (d : D) : Option Str := match py d with
  | some p => if p.showable && decide (p.depth ≤ 60) && decide (p.shown.length ≤ LINE) then some p.shown else none
  | none => none
def rRepr (S : Js J) : List V → Hp → VK → Prop := fun vs H Q => ∃ G d v x, vs = [v] ∧ Same G H ∧ (∃ o u, H sysModules = some (.frz o u)) ∧ Rp S G d v ∧ reprD d = some x ∧ Q (.str x) H
theorem cr_repr (hK : X.K = S.K) (hg : X.A.guards = some []) (hu : X.A.units + 64 < cLine) : CallR X (.builtin "repr") (rRepr S) := by
  intro pins s σ H vs us Q I r h
  obtain ⟨G, d, v, x, rfl, gh, sm, hr, e, q⟩ := h
  unfold reprD at e
  split at e
  · rename_i p hp
    split at e
    · rename_i hc
      simp only [Bool.and_eq_true, decide_eq_true_eq] at hc
      cases e
      have hsz : p.shown.length ≤ sizeLine := Nat.le_trans hc.2 line_ok
      obtain ⟨u, rfl, r1⟩ := vals1 r
      obtain ⟨as, h1, h2⟩ := reads_of I hK gh sm hr hp r1
      have fin : ∀ (h' : Heap) (t : Tok) (tk : Nat), (∀ b o, s.heap.get? b = some o → h'.get? b = some o) → EP X pins σ Q (.str p.shown t) { s with heap := h', toks := tk } := fun h' t tk hk => ⟨.str _, H, I.kept hk, ⟨t, rfl⟩, q⟩
      cases h1 with
      | none => exact PySem.P.repr_of_none (fin s.heap _ _ fun _ _ z => z)
      | bool b => exact PySem.P.repr_of_bool (fin s.heap _ _ fun _ _ z => z)
      | int i t => exact PySem.P.repr_of_int (by simpa [PyData.showable] using hc.1.1) (fin s.heap _ _ fun _ _ z => z)
      | str y t => exact PySem.P.repr_of_str (fin s.heap _ _ fun _ _ z => z) hsz
      | list a1 a2 a3 a4 => exact repr_of_reads' (.list a1 a2 a3 a4) hc.1.1 (fun _ => h2) hg (by omega) (fun _ _ z => z) fin hsz
      | tuple a1 a2 a3 a4 => exact repr_of_reads' (.tuple a1 a2 a3 a4) hc.1.1 (fun _ => h2) hg (by omega) (fun _ _ z => z) fin hsz
      | dict a1 a2 a3 a4 a5 => exact repr_of_reads' (.dict a1 a2 a3 a4 a5) hc.1.1 (fun _ => h2) hg (by omega) (fun _ _ z => z) fin hsz
    · cases e
  · cases e
end
end Mp

/-! Mp4: built-ins, slices. -/
namespace Mp
open PySem PySem.Spec L2
variable {J : Type}

/-! ### built-in calls by data -/
def CallS (S : Js J) (r : List V → Hp → VK → Prop) (φ : List D → Option D) (ci : Bool) (co : Cl) : Prop :=
  ∀ (B : Bs) (g : Gh) (H : Hp) (j : J) (ds : List D) (d : D) (vs : List V) (Q : VK), OkB S B g H j → RpL S (hp ci g) ds vs → φ ds = some d →
    (∀ g' v H', Le g g' → OkB S B g' H' j → Val S g g' co d v → Q v H') → r vs H Q
section
variable {S : Js J} {B : Bs} {M : Nat → Bool} {W : WX} {X : Cx} {e a b c : Expr} {es : List Expr} {pos p : Pos} {f fa fb fc : Ev J} {fr : Av J} {x : Str} {id T : String} {r : List V → Hp → VK → Prop} {φ : List D → Option D} {ci : Bool} {co : Cl}
theorem tCB_rd (ho : CallS S r φ ci co) {R : St} {H : Hp} {Q : VK} (h : rdE S B M W co (eB φ fr) R H Q) : tCB r (rdA S B M W ci fr) R H Q := by
  obtain ⟨g, m, j, P, E, ok, hf, q, xo⟩ := h
  exact ⟨g, m, j, _, E, ok, hf, fun xs j' g1 v1 H1 ⟨d, h3, p⟩ l1 ok1 w1 => ho B g1 H1 j' xs d v1 Q ok1.b w1 h3 fun g3 v H3 l3 ok3 w3 => q d j' g3 v H3 p (l1.trans l3) ⟨ok3, ok1.s.le l3⟩ (w3.back l1), xo⟩
theorem e_callB (hc : CallR X (.builtin id) r) (ho : CallS S r φ ci co) (hg : Gl X x) (hm : X.mg x = none) (hv : bootBuiltins x = some (.builtin id)) (ha : PA X (e :: es) (rdA S B M W ci fr)) (hn : x ≠ "__name__") (hdb : (x == ("__debug__" : Str)) = false)
    (he : starEach (e :: es) X.env = (false, eval e X.env) :: starEach es X.env) (hpl : (backTo pos (starEach es X.env)).any (·.1) = false) : PE X (.Call (.Name x p) (e :: es) [] pos) (rdE S B M W co (eB φ fr)) :=
  PE.imp (pe_callB hc hg hm hv ha hn hdb he hpl) fun _ _ _ h => tCB_rd ho h
theorem e_callTy (hc : CallR X (.type T) r) (ho : CallS S r φ ci co) (hg : Gl X x) (hm : X.mg x = none) (hv : bootBuiltins x = some (.type T)) (ha : PA X (e :: es) (rdA S B M W ci fr)) (hn : x ≠ "__name__") (hdb : (x == ("__debug__" : Str)) = false)
    (he : starEach (e :: es) X.env = (false, eval e X.env) :: starEach es X.env) (hpl : (backTo pos (starEach es X.env)).any (·.1) = false) : PE X (.Call (.Name x p) (e :: es) [] pos) (rdE S B M W co (eB φ fr)) :=
  PE.imp (pe_callTy hc hg hm hv ha hn hdb he hpl) fun _ _ _ h => tCB_rd ho h

theorem one_of {F : Hp} {d : D} {vs : List V} (h : RpL S F [d] vs) : ∃ v, vs = [v] ∧ Rp S F d v := by
  cases h with
  | cons h t => cases t; exact ⟨_, rfl, h⟩
theorem two_of {F : Hp} {d d' : D} {vs : List V} (h : RpL S F [d, d'] vs) : ∃ v v', vs = [v, v'] ∧ Rp S F d v ∧ Rp S F d' v' := by
  cases h with
  | cons h t => cases t with | cons h' t => cases t; exact ⟨_, _, rfl, h, h'⟩
end

/-- the ints of a list of data -/
def ints? : List D → Option (List Int)
  | [] => some []
  | .int i :: xs => match ints? xs with | some ns => some (i :: ns) | none => none
  | _ :: _ => none
theorem ints?_map : ∀ ns : List Int, ints? (ns.map D.int) = some ns
  | [] => rfl
  | n :: ns => by simp only [List.map_cons, ints?, ints?_map ns]
theorem ints?_some : ∀ {ds : List D} {ns : List Int}, ints? ds = some ns → ds = ns.map D.int
  | [], _, e => by cases e; rfl
  | .int i :: xs, _, e => by
    unfold ints? at e
    split at e
    · rename_i h
      cases e
      rw [ints?_some h]; rfl
    · cases e
  | .non :: _, _, e => by cases e
  | .bl _ :: _, _, e => by cases e
  | .str _ :: _, _, e => by cases e
  | .tup _ :: _, _, e => by cases e
  | .lst _ :: _, _, e => by cases e
  | .dct _ :: _, _, e => by cases e
  | .jar :: _, _, e => by cases e
  | .ins _ _ :: _, _, e => by cases e
def bls? : List D → Option (List Bool)
  | [] => some []
  | .bl i :: xs => match bls? xs with | some ns => some (i :: ns) | none => none
  | _ :: _ => none
theorem bls?_map : ∀ ns : List Bool, bls? (ns.map D.bl) = some ns
  | [] => rfl
  | n :: ns => by simp only [List.map_cons, bls?, bls?_map ns]
theorem bls?_some : ∀ {ds : List D} {ns : List Bool}, bls? ds = some ns → ds = ns.map D.bl
  | [], _, e => by cases e; rfl
  | .bl i :: xs, _, e => by
    unfold bls? at e
    split at e
    · rename_i h
      cases e
      rw [bls?_some h]; rfl
    · cases e
  | .non :: _, _, e => by cases e
  | .int _ :: _, _, e => by cases e
  | .str _ :: _, _, e => by cases e
  | .tup _ :: _, _, e => by cases e
  | .lst _ :: _, _, e => by cases e
  | .dct _ :: _, _, e => by cases e
  | .jar :: _, _, e => by cases e
  | .ins _ _ :: _, _, e => by cases e

def lenB : List D → Option D
  | [.lst xs] => some (.int xs.length)
  | [.tup xs] => some (.int xs.length)
  | [.dct xs] => some (.int xs.length)
  | [.str x] => if x.length ≤ LINE then some (.int x.length) else none
  | _ => none
def sumB : List D → Option D
  | [.lst xs] => match ints? xs with | some ns => some (.int ns.sum) | none => none
  | [.tup xs] => match ints? xs with | some ns => some (.int ns.sum) | none => none
  | _ => none
def tupleB : List D → Option D
  | [.lst xs] => some (.tup xs)
  | [.tup xs] => some (.tup xs)
  | _ => none
def listB : List D → Option D
  | [.lst xs] => some (.lst xs)
  | [.tup xs] => some (.lst xs)
  | _ => none
def absB : List D → Option D
  | [.int i] => some (.int (if i < 0 then -i else i))
  | _ => none
/-- the greatest of a list that is not empty -/
def maxL : Int → List Int → Int
  | a, [] => a
  | a, b :: r => maxL (if a < b then b else a) r
def minL : Int → List Int → Int
  | a, [] => a
  | a, b :: r => minL (if b < a then b else a) r
theorem maxL_spec : ∀ (r : List Int) (a : Int), maxL a r ∈ a :: r ∧ ∀ y ∈ a :: r, y ≤ maxL a r
  | [], a => ⟨List.mem_singleton.mpr rfl, fun y h => by rw [List.mem_singleton.mp h]; exact Int.le_refl _⟩
  | b :: r, a => by
    obtain ⟨h1, h2⟩ := maxL_spec r (if a < b then b else a)
    unfold maxL
    have h3 := h2 _ List.mem_cons_self
    refine ⟨?_, fun y hy => ?_⟩
    · rcases List.mem_cons.mp h1 with h | h
      · rw [h]; split <;> simp
      · exact List.mem_cons_of_mem _ (List.mem_cons_of_mem _ h)
    · rcases List.mem_cons.mp hy with rfl | hy
      · exact Int.le_trans (by split <;> omega) h3
      · rcases List.mem_cons.mp hy with rfl | hy
        · exact Int.le_trans (by split <;> omega) h3
        · exact h2 y (List.mem_cons_of_mem _ hy)
theorem minL_spec : ∀ (r : List Int) (a : Int), minL a r ∈ a :: r ∧ ∀ y ∈ a :: r, minL a r ≤ y
  | [], a => ⟨List.mem_singleton.mpr rfl, fun y h => by rw [List.mem_singleton.mp h]; exact Int.le_refl _⟩
  | b :: r, a => by
    obtain ⟨h1, h2⟩ := minL_spec r (if b < a then b else a)
    unfold minL
    have h3 := h2 _ List.mem_cons_self
    refine ⟨?_, fun y hy => ?_⟩
    · rcases List.mem_cons.mp h1 with h | h
      · rw [h]; split <;> simp
      · exact List.mem_cons_of_mem _ (List.mem_cons_of_mem _ h)
    · rcases List.mem_cons.mp hy with rfl | hy
      · exact Int.le_trans h3 (by split <;> omega)
      · rcases List.mem_cons.mp hy with rfl | hy
        · exact Int.le_trans h3 (by split <;> omega)
        · exact h2 y (List.mem_cons_of_mem _ hy)
def maxB : List D → Option D
  | [.int i, .int k] => some (.int (if k > i then k else i))
  | [.lst xs] => match ints? xs with | some (a :: r) => some (.int (maxL a r)) | _ => none
  | _ => none
def minB : List D → Option D
  | [.int i, .int k] => some (.int (if k < i then k else i))
  | [.lst xs] => match ints? xs with | some (a :: r) => some (.int (minL a r)) | _ => none
  | _ => none
def intB : List D → Option D
  | [.int i] => some (.int i)
  | [.bl k] => some (.int (if k then 1 else 0))
  | _ => none
def strB : List D → Option D
  | [.int i] => if sm i then some (.str (toString i)) else none
  | _ => none
def reprB : List D → Option D
  | [d] => match reprD d with | some x => some (.str x) | none => none
  | _ => none
def allB : List D → Option D
  | [.lst xs] => match bls? xs with | some bs => some (.bl (bs.all id)) | none => none
  | _ => none
def isort (ns : List Int) : List Int := ns.mergeSort (fun a b => decide (a ≤ b))
theorem isort_perm (ns : List Int) : (isort ns).Perm ns := List.mergeSort_perm _ _
theorem isort_sorted (ns : List Int) : (isort ns).Pairwise (· ≤ ·) := by
  have h := List.pairwise_mergeSort (le := fun a b : Int => decide (a ≤ b)) (fun a b c h1 h2 => by simp at *; omega) (fun a b => by simp; omega) ns
  exact h.imp fun {a b} q => by simpa using q
theorem isort_unique {ns ns' : List Int} (p : ns'.Perm ns) (s : ns'.Pairwise (· ≤ ·)) : ns' = isort ns := PySem.W.ksm_same (p.trans (isort_perm ns).symm) s (isort_sorted ns)
def sortedB : List D → Option D
  | [.lst xs] => match ints? xs with | some ns => some (.lst ((isort ns).map D.int)) | none => none
  | _ => none
section
variable {S : Js J} {B : Bs} {M : Nat → Bool} {X : Cx} {ci : Bool}
def rLenD (K : PySem.W.Frag) : List V → Hp → VK → Prop := fun xs H Q => (∃ x n, xs = [x] ∧ LenV K x H n ∧ Q (.int n) H) ∨ (∃ a kvs, xs = [V.ref a] ∧ H a = some (.dK kvs) ∧ Q (.int kvs.length) H)
theorem cr_lenD : CallR X (.builtin "len") (rLenD X.K) := call_len.or call_lenD
theorem s_len : CallS S (rLenD S.K) lenB ci .clean := by
  intro B g H j ds d vs Q ok h e q
  unfold lenB at e
  split at e
  · cases e
    obtain ⟨v, rfl, k⟩ := one_of h
    obtain ⟨a, vs, rfl, ha, ra⟩ := lst_of k
    exact .inl ⟨_, vs.length, rfl, .inl ⟨vs, .of (ok.sub ci _ _ ha), rfl⟩, by rw [← ra.length]; exact ans (B := B) ok q fun _ => .int _⟩
  · cases e
    obtain ⟨v, rfl, k⟩ := one_of h
    obtain ⟨a, vs, rfl, ha, ra⟩ := tup_of k
    exact .inl ⟨_, vs.length, rfl, .inr ⟨vs, sqT_same (ok.sub ci) ha.t, rfl⟩, by rw [← ra.length]; exact ans (B := B) ok q fun _ => .int _⟩
  · cases e
    obtain ⟨v, rfl, k⟩ := one_of h
    cases k with
    | dct ha hk hr =>
      refine .inr ⟨_, _, rfl, ok.sub ci _ _ ha, ?_⟩
      have := congrArg List.length hk
      rw [List.length_map, List.length_map] at this
      rw [← this]
      exact ans (B := B) ok q fun _ => .int _
  · split at e
    · rename_i hl
      cases e
      obtain ⟨v, rfl, k⟩ := one_of h
      rw [str_of k]
      exact .inl ⟨_, _, rfl, ⟨Nat.le_trans hl line_ok, rfl⟩, ans (B := B) ok q fun _ => .int _⟩
    · cases e
  · cases e
def rSumD (K : PySem.W.Frag) : List V → Hp → VK → Prop := fun xs H Q => rSum K xs H Q ∨ rSumT K xs H Q
theorem cr_sumD (hc : X.calm = true) : CallR X (.builtin "sum") (rSumD X.K) := (cr_sum hc).or (cr_sumT hc)
theorem s_sum : CallS S (rSumD S.K) sumB ci .clean := by
  intro B g H j ds d vs Q ok h e q
  unfold sumB at e
  split at e
  · split at e
    · rename_i ns hn
      cases e
      obtain rfl := ints?_some hn
      obtain ⟨v, rfl, k⟩ := one_of h
      obtain ⟨a, vs, rfl, ha, ra⟩ := lst_of k
      obtain rfl := ra.of_ints
      exact .inl ⟨a, ns, rfl, .of (ok.sub ci _ _ ha), ans (B := B) ok q fun _ => .int _⟩
    · cases e
  · split at e
    · rename_i ns hn
      cases e
      obtain rfl := ints?_some hn
      obtain ⟨v, rfl, k⟩ := one_of h
      obtain ⟨a, vs, rfl, ha, ra⟩ := tup_of k
      obtain rfl := ra.of_ints
      exact .inr ⟨a, ns, rfl, sqT_same (ok.sub ci) ha.t, ans (B := B) ok q fun _ => .int _⟩
    · cases e
  · cases e
theorem s_tuple : CallS S (fun xs H Q => ∃ p ys, xs = [.ref p] ∧ ((SqL S.K H p ys ∧ NewT H ys Q) ∨ (SqT S.K H p ys ∧ Q (.ref p) H))) tupleB ci (ofB ci) := by
  intro B g H j ds d vs Q ok h e q
  unfold tupleB at e
  split at e
  · cases e
    obtain ⟨v, rfl, k⟩ := one_of h
    obtain ⟨a, vs, rfl, ha, ra⟩ := lst_of k
    exact ⟨a, vs, rfl, .inl ⟨.of (ok.sub ci _ _ ha), ansT (B := B) ok q ra⟩⟩
  · cases e
    obtain ⟨v, rfl, k⟩ := one_of h
    obtain ⟨a, vs, rfl, ha, ra⟩ := tup_of k
    exact ⟨a, vs, rfl, .inr ⟨sqT_same (ok.sub ci) ha.t, ansP (B := B) ok q k⟩⟩
  · cases e
theorem s_list : CallS S (fun xs H Q => ∃ p ys, xs = [.ref p] ∧ (SqL S.K H p ys ∨ SqT S.K H p ys) ∧ ∀ l, H l = none → Q (.ref l) (upd H l (.lst ys))) listB ci (ofL ci) := by
  intro B g H j ds d vs Q ok h e q
  unfold listB at e
  split at e
  · cases e
    obtain ⟨v, rfl, k⟩ := one_of h
    obtain ⟨a, vs, rfl, ha, ra⟩ := lst_of k
    exact ⟨a, vs, rfl, .inl (.of (ok.sub ci _ _ ha)), fun l nl => ansL (B := B) ok q ra nl⟩
  · cases e
    obtain ⟨v, rfl, k⟩ := one_of h
    obtain ⟨a, vs, rfl, ha, ra⟩ := tup_of k
    exact ⟨a, vs, rfl, .inr (sqT_same (ok.sub ci) ha.t), fun l nl => ansL (B := B) ok q ra nl⟩
  · cases e
theorem s_abs : CallS S (fun xs H Q => ∃ i, xs = [.int i] ∧ Q (.int (if i < 0 then -i else i)) H) absB ci .clean := by
  intro B g H j ds d vs Q ok h e q
  unfold absB at e
  split at e
  · cases e
    obtain ⟨v, rfl, k⟩ := one_of h
    rw [int_of k]
    exact ⟨_, rfl, ans (B := B) ok q fun _ => .int _⟩
  · cases e
def rMaxD (K : PySem.W.Frag) : List V → Hp → VK → Prop := fun xs H Q => (∃ i j, xs = [.int i, .int j] ∧ Q (.int (if j > i then j else i)) H) ∨ rMax K xs H Q
def rMinD (K : PySem.W.Frag) : List V → Hp → VK → Prop := fun xs H Q => (∃ i j, xs = [.int i, .int j] ∧ Q (.int (if j < i then j else i)) H) ∨ rMin K xs H Q
theorem cr_maxD (hc : X.calm = true) : CallR X (.builtin "max") (rMaxD X.K) := (call_max2 hc).or (cr_max hc)
theorem cr_minD (hc : X.calm = true) : CallR X (.builtin "min") (rMinD X.K) := (call_min2 hc).or (cr_min hc)
theorem s_max : CallS S (rMaxD S.K) maxB ci .clean := by
  intro B g H j ds d vs Q ok h e q
  unfold maxB at e
  split at e
  · cases e
    obtain ⟨v, v', rfl, k, k'⟩ := two_of h
    rw [int_of k, int_of k']
    exact .inl ⟨_, _, rfl, ans (B := B) ok q fun _ => .int _⟩
  · split at e
    · rename_i a r hn
      cases e
      obtain rfl := ints?_some hn
      obtain ⟨v, rfl, k⟩ := one_of h
      obtain ⟨p, vs, rfl, ha, ra⟩ := lst_of k
      obtain rfl := ra.of_ints
      obtain ⟨m1, m2⟩ := maxL_spec r a
      refine .inr ⟨p, a :: r, rfl, .of (ok.sub ci _ _ ha), by simp, fun m hm hle => ?_⟩
      obtain rfl : m = maxL a r := Int.le_antisymm (m2 m hm) (hle _ m1)
      exact ans (B := B) ok q fun _ => .int _
    · cases e
  · cases e
theorem s_min : CallS S (rMinD S.K) minB ci .clean := by
  intro B g H j ds d vs Q ok h e q
  unfold minB at e
  split at e
  · cases e
    obtain ⟨v, v', rfl, k, k'⟩ := two_of h
    rw [int_of k, int_of k']
    exact .inl ⟨_, _, rfl, ans (B := B) ok q fun _ => .int _⟩
  · split at e
    · rename_i a r hn
      cases e
      obtain rfl := ints?_some hn
      obtain ⟨v, rfl, k⟩ := one_of h
      obtain ⟨p, vs, rfl, ha, ra⟩ := lst_of k
      obtain rfl := ra.of_ints
      obtain ⟨m1, m2⟩ := minL_spec r a
      refine .inr ⟨p, a :: r, rfl, .of (ok.sub ci _ _ ha), by simp, fun m hm hle => ?_⟩
      obtain rfl : m = minL a r := Int.le_antisymm (hle _ m1) (m2 m hm)
      exact ans (B := B) ok q fun _ => .int _
    · cases e
  · cases e
theorem s_int : CallS S (fun xs H Q => (∃ i, xs = [.int i] ∧ Q (.int i) H) ∨ ∃ k, xs = [.bl k] ∧ Q (.int (if k then 1 else 0)) H) intB ci .clean := by
  intro B g H j ds d vs Q ok h e q
  unfold intB at e
  split at e
  · cases e
    obtain ⟨v, rfl, k⟩ := one_of h
    rw [int_of k]
    exact .inl ⟨_, rfl, ans (B := B) ok q fun _ => .int _⟩
  · cases e
    obtain ⟨v, rfl, k⟩ := one_of h
    rw [bl_of k]
    exact .inr ⟨_, rfl, ans (B := B) ok q fun _ => .int _⟩
  · cases e
theorem s_str : CallS S (fun xs H Q => ∃ i, xs = [.int i] ∧ i.natAbs.log2 < 1920 ∧ Q (.str (toString i)) H) strB ci .clean := by
  intro B g H j ds d vs Q ok h e q
  unfold strB at e
  split at e
  · split at e
    · rename_i hs
      cases e
      obtain ⟨v, rfl, k⟩ := one_of h
      rw [int_of k]
      exact ⟨_, rfl, Nat.lt_trans (sm_log hs) (by decide), ans (B := B) ok q fun _ => .str _⟩
    · cases e
  · cases e
theorem s_repr : CallS S (rRepr S) reprB ci .clean := by
  intro B g H j ds d vs Q ok h e q
  unfold reprB at e
  split at e
  · split at e
    · rename_i x hx
      cases e
      obtain ⟨v, rfl, k⟩ := one_of h
      exact ⟨_, _, v, x, rfl, ok.sub ci, ok.sm, k, hx, ans (B := B) ok q fun _ => .str _⟩
    · cases e
  · cases e
theorem s_all : CallS S (rAll S.K) allB ci .clean := by
  intro B g H j ds d vs Q ok h e q
  unfold allB at e
  split at e
  · split at e
    · rename_i ns hn
      cases e
      obtain rfl := bls?_some hn
      obtain ⟨v, rfl, k⟩ := one_of h
      obtain ⟨a, vs, rfl, ha, ra⟩ := lst_of k
      obtain rfl := ra.of_bls
      exact ⟨a, ns, rfl, .of (ok.sub ci _ _ ha), ans (B := B) ok q fun _ => .bl _⟩
    · cases e
  · cases e
theorem RpL.ints' {F : Hp} (ns : List Int) : RpL S F (ns.map D.int) (ns.map V.int) := RpL.ints ns
theorem s_sorted : CallS S (rSortedI S.K) sortedB ci .fresh := by
  intro B g H j ds d vs Q ok h e q
  unfold sortedB at e
  split at e
  · split at e
    · rename_i ns hn
      cases e
      obtain rfl := ints?_some hn
      obtain ⟨v, rfl, k⟩ := one_of h
      obtain ⟨a, vs, rfl, ha, ra⟩ := lst_of k
      obtain rfl := ra.of_ints
      refine ⟨a, ns, rfl, .of (ok.sub ci _ _ ha), fun ns' p h1 h2 np => ?_⟩
      obtain rfl := isort_unique h1 h2
      exact ansL (B := B) (k := true) ok q (RpL.ints _) np
    · cases e
  · cases e
end

/-! ### slices -/
def cutD (xs : List D) (lo hi : Option Int) : List D := (xs.drop (HT.sIx xs.length 0 lo)).take (HT.sIx xs.length xs.length hi - HT.sIx xs.length 0 lo)
def sliceD (d : D) (lo hi : Option Int) : Option D := match d with
  | .lst xs => some (.lst (cutD xs lo hi))
  | .tup xs => some (.tup (cutD xs lo hi))
  | .str z => if z.length ≤ LINE then some (.str (cutS z lo hi)) else none
  | _ => none
def sliceL (d : D) (lo hi : Option Int) : Option D := match d with
  | .lst xs => some (.lst (cutD xs lo hi))
  | _ => none
abbrev Pv (J : Type) := Sd → J → (Option Int → J → Prop) → XP J → Prop
class MoP (f : Pv J) : Prop where
  mo : ∀ {m : Sd} {j : J} {P P' : Option Int → J → Prop} {E E' : XP J}, f m j P E → (∀ d j', P d j' → P' d j') → (∀ e m' j', E e m' j' → E' e m' j') → f m j P' E'
def pNone (m : Sd) (j : J) (P : Option Int → J → Prop) (E : XP J) : Prop := P none j
def pSome (f : Ev J) (m : Sd) (j : J) (P : Option Int → J → Prop) (E : XP J) : Prop := f m j (fun d j1 => ∃ i, d = .int i ∧ P (some i) j1) E
def eSl (φ : D → Option Int → Option Int → Option D) (fa : Ev J) (fl fh : Pv J) (m : Sd) (j : J) (P : D → J → Prop) (E : XP J) : Prop :=
  fa m j (fun x j1 => fl m j1 (fun l j2 => fh m j2 (fun u j3 => ∃ z, φ x l u = some z ∧ P z j3) E) E) E
instance : MoP (pNone (J := J)) := ⟨fun p q _ => q _ _ p⟩
instance {f : Ev J} [h : MoE f] : MoP (pSome f) := ⟨fun p q x => h.mo p (fun _ _ ⟨i, e, p⟩ => ⟨i, e, q _ _ p⟩) x⟩
instance {φ : D → Option Int → Option Int → Option D} {fa : Ev J} {fl fh : Pv J} [ha : MoE fa] [hl : MoP fl] [hh : MoP fh] : MoE (eSl φ fa fl fh) :=
  ⟨fun p q x => ha.mo p (fun _ _ p => hl.mo p (fun _ _ p => hh.mo p (fun _ _ ⟨z, e, p⟩ => ⟨z, e, q _ _ p⟩) x) x) x⟩
def revD : D → Option D
  | .lst xs => some (.lst xs.reverse)
  | .tup xs => some (.tup xs.reverse)
  | _ => none
def revL : D → Option D
  | .lst xs => some (.lst xs.reverse)
  | _ => none
section
variable {S : Js J} {B : Bs} {M : Nat → Bool} {W : WX} {X : Cx} {e a b c : Expr} {pos p2 : Pos} {f fa fb fc : Ev J} {ci : Bool} {co : Cl}
def rdP (S : Js J) (B : Bs) (M : Nat → Bool) (W : WX) (f : Pv J) : TO := fun r H Q => ∃ g m j P E, Ok S B g M r H m j ∧ f m j P E ∧ (∀ d j' g' H', P d j' → Le g g' → Ok S B g' M r H' m j' → Q d H') ∧ XOut S B M W g E
theorem PO.imp {o : Option Expr} {t t' : TO} (h : PO X o t) (i : ∀ r H Q, t' r H Q → t r H Q) : PO X o t' := ⟨fun pins s σ H Q I q => h.run pins s σ H Q I (i _ _ _ q)⟩
theorem p_none : PO X none (rdP S B M W pNone) := PO.imp po_none fun r H Q ⟨g, m, j, P, E, ok, hf, q, _⟩ => q _ _ g H hf (Le.refl g) ok
theorem p_some (h : PE X e (rdE S B M W .mix f)) : PO X (some e) (rdP S B M W (pSome f)) := PO.imp (po_some h) fun r H Q ⟨g, m, j, P, E, ok, hf, q, xo⟩ =>
  ⟨g, m, j, _, E, ok, hf, fun d j1 g1 v H1 ⟨i, ei, p⟩ l1 ok1 w => ⟨i, by subst ei; exact int_of w, q _ _ g1 H1 p l1 ok1⟩, xo⟩
def SlS (S : Js J) (r : V → Option Int → Option Int → Hp → VK → Prop) (φ : D → Option Int → Option Int → Option D) (ci : Bool) (co : Cl) : Prop :=
  ∀ (B : Bs) (g : Gh) (H : Hp) (j : J) (d1 d : D) (lo hi : Option Int) (v1 : V) (Q : VK), OkB S B g H j → Rp S (hp ci g) d1 v1 → φ d1 lo hi = some d →
    (∀ g' v H', Le g g' → OkB S B g' H' j → Val S g g' co d v → Q v H') → r v1 lo hi H Q
theorem e_slice {lo hi : Option Expr} {fl fh : Pv J} {r : V → Option Int → Option Int → Hp → VK → Prop} {φ : D → Option Int → Option Int → Option D} (hr : SlR X r) (ho : SlS S r φ ci co) (ha : PE X a (rdE S B M W (ofB ci) fa)) (hl : PO X lo (rdP S B M W fl)) (hh : PO X hi (rdP S B M W fh)) :
    PE X (.Subscript a (.Slice lo hi none p2) pos) (rdE S B M W co (eSl φ fa fl fh)) := PE.imp (pe_slice hr ha hl hh) fun R H Q ⟨g, m, j, P, E, ok, hf, q, xo⟩ =>
  ⟨g, m, j, _, E, ok, hf, fun x j1 g1 v1 H1 h1 l1 ok1 w1 => ⟨g1, m, j1, _, E, ok1, h1, fun l j2 g2 H2 h2 l2 ok2 => ⟨g2, m, j2, _, E, ok2, h2, fun u j3 g3 H3 ⟨z, h4, p⟩ l3 ok3 =>
    ho B g3 H3 _ _ _ _ _ v1 Q ok3.b (rp_hp ((w1.le l2).le l3)) h4 fun g4 v H4 l4 ok4 w4 => q _ _ g4 v H4 p (((l1.trans l2).trans l3).trans l4) ⟨ok4, ok3.s.le l4⟩ (w4.back ((l1.trans l2).trans l3)), xo.le (l1.trans l2).f⟩, xo.le l1.f⟩, xo⟩
theorem RpL.cut {F : Hp} {ds : List D} {vs : List V} (h : RpL S F ds vs) (lo hi : Option Int) : RpL S F (cutD ds lo hi) (cutV vs lo hi) := by
  unfold cutD cutV
  rw [h.length]
  exact (h.drop _).take _
def rSlD (K : PySem.W.Frag) : V → Option Int → Option Int → Hp → VK → Prop := fun x lo hi H Q => rSlL K x lo hi H Q ∨ rSlF K x lo hi H Q ∨ rSlS x lo hi H Q
theorem sl_D : SlR X (rSlD X.K) := sl_list.or (sl_tupF.or sl_str)
theorem cutD_all {xs : List D} {lo hi : Option Int} (h : HT.sIx xs.length 0 lo = 0 ∧ HT.sIx xs.length xs.length hi = xs.length) : cutD xs lo hi = xs := by
  unfold cutD
  rw [h.1, h.2]
  simp
theorem s_slice : SlS S (rSlD S.K) sliceD ci (ofB ci) := by
  intro B g H j d1 d lo hi v1 Q ok h e q
  unfold sliceD at e
  split at e
  · cases e
    obtain ⟨a, vs, rfl, ha, ra⟩ := lst_of h
    exact .inl ⟨a, vs, rfl, .of (ok.sub ci _ _ ha), fun p np => ansF (B := B) ok q (ra.cut lo hi) np⟩
  · cases e
    obtain ⟨a, vs, rfl, ha, ra⟩ := tup_of h
    refine .inr (.inl ⟨a, vs, rfl, sqT_same (ok.sub ci) ha.t, fun z => ?_, fun z => ansT (B := B) ok q (ra.cut lo hi)⟩)
    rw [← ra.length] at z
    rw [cutD_all z] at q
    exact ansP (B := B) ok q h
  · split at e
    · rename_i hl
      cases e
      rw [str_of h]
      exact .inr (.inr ⟨_, rfl, Nat.le_trans hl line_ok, q g _ H (Le.refl g) ok (by cases ci <;> exact .str _)⟩)
    · cases e
  · cases e
theorem s_sliceL : SlS S (rSlL S.K) sliceL ci (ofL ci) := by
  intro B g H j d1 d lo hi v1 Q ok h e q
  unfold sliceL at e
  split at e
  · cases e
    obtain ⟨a, vs, rfl, ha, ra⟩ := lst_of h
    exact ⟨a, vs, rfl, .of (ok.sub ci _ _ ha), fun p np => ansL (B := B) ok q (ra.cut lo hi) np⟩
  · cases e
/-- e[::-1] of a list or a tuple -/
def tRevS (K : PySem.W.Frag) (te : TE) : TE := fun σ H Q => te σ H fun x H1 => (∃ a xs, x = .ref a ∧ SqL K H1 a xs ∧ ∀ p, H1 p = none → Q (.ref p) (upd H1 p (.lst xs.reverse))) ∨ (∃ a xs, x = .ref a ∧ SqT K H1 a xs ∧ NewT H1 xs.reverse Q)
open PyProof.Rows hiding St in
theorem pe_revS {te : TE} {k : Nat} {p1 p2 p3 : Pos} (he : PE X e te) : PE X (.Subscript e (.Slice none none (some (.UnaryOp .USub (.Constant (.int 1) k p1) p2)) p3) pos) (tRevS X.K te) := by
  refine ⟨fun pins s σ H Q I h => ?_⟩
  refine Subscript_ (thn (he.run pins s σ H _ I h) fun v s1 ⟨x, H1, I1, r1, q1⟩ => ?_)
  have hst : PO X (some (.UnaryOp .USub (.Constant (.int 1) k p1) p2)) (tPart (tUn (rU fun i => .int (-i)) (tC (.int 1)))) := po_some (pe_un un_neg pe_int)
  refine wpAny_Slice (thn (po_none.run pins s1 σ H1 (fun o H2 => o = none ∧ H2 = H1) I1 ⟨rfl, rfl⟩) fun vl s2 ⟨l, H2, I2, pl, el, e2⟩ => ?_)
  subst el e2
  refine thn (po_none.run pins s2 σ H2 (fun o H3 => o = none ∧ H3 = H2) I2 ⟨rfl, rfl⟩) fun vu s3 ⟨u, H3, I3, pu, eu, e3⟩ => ?_
  subst eu e3
  refine thn (hst.run pins s3 σ H3 (fun o H4 => o = some (-1) ∧ H4 = H3) I3 ⟨1, rfl, -1, rfl, rfl, rfl⟩) fun vs s4 ⟨o, H4, I4, ps, eo, e4⟩ => ?_
  subst eo e4
  have I5 : Inv X pins σ H4 { s4 with heap := s4.heap.push { cls := .type "slice", data := .fields #[vl, vu, vs] } } := I4.kept (t' := s4.toks) fun b ob q => Heap.get?_push_of_some _ q
  rcases q1 with ⟨a, xs, ex, hx, q⟩ | ⟨a, xs, ex, hx, q⟩
  · subst ex
    cases r1
    obtain ⟨its, r, ht, hz⟩ := I5.list hx
    have hlen := r.length
    show wpAny (model X.prog X.w) X.A (subscriptTail e (.Slice none none (some (.UnaryOp .USub (.Constant (.int 1) k p1) p2)) p3) (.ref a) (.ref s4.heap.objs.size)) (EP X pins σ Q) X.xe { s4 with heap := s4.heap.push { cls := .type "slice", data := .fields #[vl, vu, vs] } }
    refine tail_any (ops := [.ref a, .ref s4.heap.objs.size]) ht.isList.typeIs (PySem.slot_list_getitem.lookup) ?_ (by with_unfolding_all rfl)
    refine wpAny_getItem_list_slice ht.isList (Heap.IsSliceOf.new _ vl vu vs) pl pu ps (by decide) ?_ (by rw [List.size_toArray]; omega)
    rw [PySem.W.krv_pick]
    refine ⟨.ref _, _, I5.laid (t' := s4.toks) (o := .lst xs.reverse) (fun b ob q => Heap.get?_push_of_some _ q) (Nat.le_refl _) ?_, rfl, q _ (I5.hok.fresh (Nat.le_refl _))⟩
    exact ⟨by rw [List.length_reverse]; exact hz, _, 0, r.reverse, Heap.get?_push_size _ rfl⟩
  · subst ex
    cases r1
    obtain ⟨its, r, ht, hz⟩ := I5.tuple hx
    have hlen := r.length
    show wpAny (model X.prog X.w) X.A (subscriptTail e (.Slice none none (some (.UnaryOp .USub (.Constant (.int 1) k p1) p2)) p3) (.ref a) (.ref s4.heap.objs.size)) (EP X pins σ Q) X.xe { s4 with heap := s4.heap.push { cls := .type "slice", data := .fields #[vl, vu, vs] } }
    refine tail_any (ops := [.ref a, .ref s4.heap.objs.size]) ht.typeIs (PyProof.Rows.slot_tuple_getitem.lookup) ?_ (by with_unfolding_all rfl)
    refine HT.getItem_tuple_rev ht (Heap.IsSliceOf.new _ vl vu vs) pl pu ps ?_ (by rw [List.size_toArray]; omega)
    refine ⟨.ref _, _, I5.laid (t' := s4.toks) (o := .frz { cls := .type "tuple", data := .seq its.reverse.toArray } (.tup xs.reverse)) (fun b ob q => Heap.get?_push_of_some _ q) (Nat.le_refl _) ?_, rfl, q _ _ (I5.hok.fresh (Nat.le_refl _)) rfl⟩
    exact ⟨Heap.get?_push_size _ rfl, by rw [List.length_reverse]; exact hz, its.reverse, r.reverse, IsTup.new _ _⟩
theorem e_rev {k : Nat} {p1 p2 p3 : Pos} (hK : X.K = S.K) (ha : PE X a (rdE S B M W (ofB ci) fa)) : PE X (.Subscript a (.Slice none none (some (.UnaryOp .USub (.Constant (.int 1) k p1) p2)) p3) pos) (rdE S B M W (ofB ci) (eUn revD fa)) :=
  PE.imp (pe_revS ha) fun R H Q ⟨g, m, j, P, E, ok, hf, q, xo⟩ => by
    refine ⟨g, m, j, _, E, ok, hf, fun x j' g1 v1 H1 ⟨z, h3, p⟩ l1 ok1 w1 => ?_, xo⟩
    unfold revD at h3
    split at h3
    · cases h3
      obtain ⟨a, vs, rfl, ha, ra⟩ := lst_of (rp_hp w1)
      exact .inl ⟨a, vs, rfl, .of (ok1.b.sub ci _ _ ha), fun _ np => ansF (B := B) ok1.b (fun g3 v H3 l3 ok3 w3 => q _ _ g3 v H3 p (l1.trans l3) ⟨ok3, ok1.s.le l3⟩ (w3.back l1)) ra.reverse np⟩
    · cases h3
      obtain ⟨a, vs, rfl, ha, ra⟩ := tup_of (rp_hp w1)
      exact .inr ⟨a, vs, rfl, by rw [hK]; exact sqT_same (ok1.b.sub ci) ha.t, ansT (B := B) ok1.b (fun g3 v H3 l3 ok3 w3 => q _ _ g3 v H3 p (l1.trans l3) ⟨ok3, ok1.s.le l3⟩ (w3.back l1)) ra.reverse⟩
    · cases h3
theorem e_revL {k : Nat} {p1 p2 p3 : Pos} (ha : PE X a (rdE S B M W (ofB ci) fa)) : PE X (.Subscript a (.Slice none none (some (.UnaryOp .USub (.Constant (.int 1) k p1) p2)) p3) pos) (rdE S B M W (ofL ci) (eUn revL fa)) :=
  PE.imp (pe_revL ha) fun R H Q ⟨g, m, j, P, E, ok, hf, q, xo⟩ => by
    refine ⟨g, m, j, _, E, ok, hf, fun x j' g1 v1 H1 ⟨z, h3, p⟩ l1 ok1 w1 => ?_, xo⟩
    unfold revL at h3
    split at h3
    · cases h3
      obtain ⟨a, vs, rfl, ha, ra⟩ := lst_of (rp_hp w1)
      exact ⟨a, vs, rfl, .of (ok1.b.sub ci _ _ ha), fun _ np => ansL (B := B) ok1.b (fun g3 v H3 l3 ok3 w3 => q _ _ g3 v H3 p (l1.trans l3) ⟨ok3, ok1.s.le l3⟩ (w3.back l1)) ra.reverse np⟩
    · cases h3
end
end Mp

/-! Mp5: truth, tests, what is walked, targets, comprehensions. -/
namespace Mp
open PySem PySem.Spec L2
variable {J : Type}

/-! ### truth -/
def truD : D → Option Bool
  | .non => some false
  | .bl b => some b
  | .int i => some (i != 0)
  | .str x => if x.length ≤ LINE then some ((x.length : Int) != 0) else none
  | .tup xs => some (!xs.isEmpty)
  | .lst xs => some (!xs.isEmpty)
  | .dct xs => some (!xs.isEmpty)
  | _ => none
section
variable {S : Js J} {B : Bs} {M : Nat → Bool} {W : WX} {X : Cx} {e a b c : Expr} {es rest : List Expr} {pos p : Pos} {f fa fb fc : Ev J} {ta tb : Tv J}
theorem RpL.isEmpty {F : Hp} {ds : List D} {vs : List V} (h : RpL S F ds vs) : (!ds.isEmpty) = !vs.isEmpty := by cases h <;> rfl
theorem tru_of {F H : Hp} {d : D} {v : V} {k : Bool} (h : Rp S F d v) (fh : Same F H) (e : truD d = some k) : TruV S.K v H k := by
  cases h with
  | non => cases e; rfl
  | bl b => cases e; rfl
  | int i => cases e; rfl
  | str x =>
    have e : (if x.length ≤ LINE then some ((x.length : Int) != 0) else none) = some k := e
    split at e
    · rename_i hl
      cases e; exact ⟨Nat.le_trans hl line_ok, rfl⟩
    · cases e
  | tup h1 h2 => cases e; exact .inr (.inl ⟨_, sqT_same fh h1.t, h2.isEmpty⟩)
  | lst h1 h2 => cases e; exact .inl ⟨_, .of (fh _ _ h1), h2.isEmpty⟩
  | dct h1 h2 h3 =>
    cases e
    refine .inr (.inr ⟨_, fh _ _ h1, ?_⟩)
    rename_i kds kvs
    have h4 : kds.length = kvs.length := by simpa using congrArg List.length h2
    cases kds <;> cases kvs <;> first | rfl | cases h4
  | jar => cases e
  | obj _ => cases e
  | ins _ _ _ => cases e
  | dtp _ _ _ => cases e

/-! ### tests -/
def tOf (fa : Ev J) (m : Sd) (j : J) (P : Bool → J → Prop) (E : XP J) : Prop := fa m j (fun x j1 => ∃ b, truD x = some b ∧ P b j1) E
def tBl (fa : Ev J) (m : Sd) (j : J) (P : Bool → J → Prop) (E : XP J) : Prop := fa m j (fun x j1 => ∃ b, x = .bl b ∧ P b j1) E
def tAndD (ta tb : Tv J) (m : Sd) (j : J) (P : Bool → J → Prop) (E : XP J) : Prop := ta m j (fun b j1 => if b = true then tb m j1 P E else P false j1) E
def tOrD (ta tb : Tv J) (m : Sd) (j : J) (P : Bool → J → Prop) (E : XP J) : Prop := ta m j (fun b j1 => if b = true then P true j1 else tb m j1 P E) E
def tNotD (ta : Tv J) (m : Sd) (j : J) (P : Bool → J → Prop) (E : XP J) : Prop := ta m j (fun b j1 => P (!b) j1) E
def tYesD (m : Sd) (j : J) (P : Bool → J → Prop) (E : XP J) : Prop := P true j
/-- a chain of two comparisons -/
def eChain (φ ψ : D → D → Option D) (fa fb fc : Ev J) (m : Sd) (j : J) (P : D → J → Prop) (E : XP J) : Prop :=
  fa m j (fun x j1 => fb m j1 (fun y j2 => ∃ b, φ x y = some (.bl b) ∧ if b = true then fc m j2 (fun z j3 => ∃ d, ψ y z = some d ∧ P d j3) E else P (.bl false) j2) E) E
def eAnd (fa fb : Ev J) (m : Sd) (j : J) (P : D → J → Prop) (E : XP J) : Prop := fa m j (fun x j1 => ∃ b, truD x = some b ∧ if b = true then fb m j1 P E else P x j1) E
def eOr (fa fb : Ev J) (m : Sd) (j : J) (P : D → J → Prop) (E : XP J) : Prop := fa m j (fun x j1 => ∃ b, truD x = some b ∧ if b = true then P x j1 else fb m j1 P E) E
def eNot (fa : Ev J) (m : Sd) (j : J) (P : D → J → Prop) (E : XP J) : Prop := fa m j (fun x j1 => ∃ b, truD x = some b ∧ P (.bl (!b)) j1) E
def eIf (tc : Tv J) (fa fb : Ev J) (m : Sd) (j : J) (P : D → J → Prop) (E : XP J) : Prop := tc m j (fun b j1 => if b = true then fa m j1 P E else fb m j1 P E) E
theorem ite_mono {b : Bool} {p q p' q' : Prop} (h : if b = true then p else q) (hp : p → p') (hq : q → q') : if b = true then p' else q' := by
  cases b
  · exact hq h
  · exact hp h
section
variable {φ ψ : D → D → Option D} {f1 f2 f3 : Ev J} {t1 t2 : Tv J}
instance [ha : MoE f1] : MoT (tOf f1) := ⟨fun h q x => ha.mo h (fun _ _ ⟨b, e, p⟩ => ⟨b, e, q _ _ p⟩) x⟩
instance [ha : MoE f1] : MoT (tBl f1) := ⟨fun h q x => ha.mo h (fun _ _ ⟨b, e, p⟩ => ⟨b, e, q _ _ p⟩) x⟩
instance [ha : MoT t1] [hb : MoT t2] : MoT (tAndD t1 t2) := ⟨fun h q x => ha.mo h (fun _ _ p => ite_mono p (fun p => hb.mo p q x) (q _ _)) x⟩
instance [ha : MoT t1] [hb : MoT t2] : MoT (tOrD t1 t2) := ⟨fun h q x => ha.mo h (fun _ _ p => ite_mono p (q _ _) (fun p => hb.mo p q x)) x⟩
instance [ha : MoT t1] : MoT (tNotD t1) := ⟨fun h q x => ha.mo h (fun _ _ p => q _ _ p) x⟩
instance : MoT (tYesD (J := J)) := ⟨fun h q x => q _ _ h⟩
instance [ha : MoE f1] [hb : MoE f2] [hc : MoE f3] : MoE (eChain φ ψ f1 f2 f3) := ⟨fun h q x => ha.mo h (fun _ _ p => hb.mo p (fun _ _ ⟨b, e, p⟩ => ⟨b, e, ite_mono p (fun p => hc.mo p (fun _ _ ⟨d, e, p⟩ => ⟨d, e, q _ _ p⟩) x) (q _ _)⟩) x) x⟩
instance [ha : MoE f1] [hb : MoE f2] : MoE (eAnd f1 f2) := ⟨fun h q x => ha.mo h (fun _ _ ⟨b, e, p⟩ => ⟨b, e, ite_mono p (fun p => hb.mo p q x) (q _ _)⟩) x⟩
instance [ha : MoE f1] [hb : MoE f2] : MoE (eOr f1 f2) := ⟨fun h q x => ha.mo h (fun _ _ ⟨b, e, p⟩ => ⟨b, e, ite_mono p (q _ _) (fun p => hb.mo p q x)⟩) x⟩
instance [ha : MoE f1] : MoE (eNot f1) := ⟨fun h q x => ha.mo h (fun _ _ ⟨b, e, p⟩ => ⟨b, e, q _ _ p⟩) x⟩
instance [hc : MoT t1] [ha : MoE f1] [hb : MoE f2] : MoE (eIf t1 f1 f2) := ⟨fun h q x => hc.mo h (fun _ _ p => ite_mono p (fun p => ha.mo p q x) (fun p => hb.mo p q x)) x⟩
end
theorem t_truth (hK : X.K = S.K) (h : PE X a (rdE S B M W .mix fa)) (he : ∀ whole, isTrue a X.env whole = (do let v ← whole; standAt a.pos; holding [v] (truthy v))) : PT X a (rdT S B M W (tOf fa)) :=
  PT.imp (pt_truth h he) fun r H Q ⟨g, m, j, P, E, ok, hf, q, xo⟩ =>
    ⟨g, m, j, _, E, ok, hf, fun d j' g1 v H1 ⟨b, h2, p⟩ l1 ok1 w => ⟨_, by rw [hK]; exact tru_of w ok1.b.gh h2, q _ _ g1 H1 p l1 ok1⟩, xo⟩
/-- a test whose reading is that of a value True or False -/
theorem t_of {t : TE} (h : PT X a (tTest t)) (i : ∀ r H Q, rdE S B M W .mix fa r H Q → t r H Q) : PT X a (rdT S B M W (tBl fa)) :=
  PT.imp h fun r H Q ⟨g, m, j, P, E, ok, hf, q, xo⟩ =>
    i _ _ _ ⟨g, m, j, _, E, ok, hf, fun d j' g1 v H1 ⟨b, e, p⟩ l1 ok1 w => ⟨b, by subst e; exact bl_of w, q _ _ g1 H1 p l1 ok1⟩, xo⟩
theorem rdE_mix {k : Cl} {R : St} {H : Hp} {Q : VK} (h : rdE S B M W .mix f R H Q) : rdE S B M W k f R H Q := by
  obtain ⟨g, m, j, P, E, ok, hf, q, xo⟩ := h
  exact ⟨g, m, j, P, E, ok, hf, fun d j' g' v H' p le ok' w => q d j' g' v H' p le ok' (w.mix ok'.b.fg), xo⟩
theorem t_cmp {op : CmpOp} {r : R2} {φ : D → D → Option D} {ci : Bool} {co : Cl} (hr : OpR X (compareOp op) r) (ho : OpS S r φ ci co) (ha : PE X a (rdE S B M W (ofB ci) fa)) (hb : PE X b (rdE S B M W (ofB ci) fb)) (hm : behindInMarks op b = false) :
    PT X (.Compare a [op] [b] pos) (rdT S B M W (tBl (eOp φ fa fb))) := t_of (pt_cmpR hr ha hb hm) fun _ _ _ h => tOp_rd ho (rdE_mix h)
theorem t_and1 (ha : PT X a (rdT S B M W ta)) : PW X (.BoolOp .And [a] pos) (rdT S B M W ta) := pw_and1 ha
theorem t_or1 (ha : PT X a (rdT S B M W ta)) : PW X (.BoolOp .Or [a] pos) (rdT S B M W ta) := pw_or1 ha
theorem t_and (ha : PT X a (rdT S B M W ta)) (hb : PW X (.BoolOp .And (b :: rest) pos) (rdT S B M W tb)) : PW X (.BoolOp .And (a :: b :: rest) pos) (rdT S B M W (tAndD ta tb)) :=
  PW.imp (pw_and ha hb) fun r H Q ⟨g, m, j, P, E, ok, hf, q, xo⟩ =>
    ⟨g, m, j, _, E, ok, hf, fun d j1 g1 H1 p l1 ok1 => ite_mono p (fun p => ⟨g1, m, _, _, E, ok1, p, fun d j2 g2 H2 p l2 ok2 => q _ _ g2 H2 p (l1.trans l2) ok2, xo.le l1.f⟩) (fun p => q _ _ g1 H1 p l1 ok1), xo⟩
theorem t_or (ha : PT X a (rdT S B M W ta)) (hb : PW X (.BoolOp .Or (b :: rest) pos) (rdT S B M W tb)) : PW X (.BoolOp .Or (a :: b :: rest) pos) (rdT S B M W (tOrD ta tb)) :=
  PW.imp (pw_or ha hb) fun r H Q ⟨g, m, j, P, E, ok, hf, q, xo⟩ =>
    ⟨g, m, j, _, E, ok, hf, fun d j1 g1 H1 p l1 ok1 => ite_mono p (fun p => q _ _ g1 H1 p l1 ok1) (fun p => ⟨g1, m, _, _, E, ok1, p, fun d j2 g2 H2 p l2 ok2 => q _ _ g2 H2 p (l1.trans l2) ok2, xo.le l1.f⟩), xo⟩
theorem t_not (ha : PT X a (rdT S B M W ta)) : PT X (.UnaryOp .Not a pos) (rdT S B M W (tNotD ta)) :=
  PT.imp (pt_not ha) fun r H Q ⟨g, m, j, P, E, ok, hf, q, xo⟩ => ⟨g, m, j, _, E, ok, hf, fun d j1 g1 H1 p l1 ok1 => q _ _ g1 H1 p l1 ok1, xo⟩
theorem tChain_rd {r r' : R2} {φ ψ : D → D → Option D} {ci : Bool} (ho : OpS S r φ ci .clean) (ho' : OpS S r' ψ ci .clean) {R : St} {H : Hp} {Q : VK} (h : rdE S B M W .clean (eChain φ ψ fa fb fc) R H Q) :
    tChain r r' (rdE S B M W (ofB ci) fa) (rdE S B M W (ofB ci) fb) (rdE S B M W (ofB ci) fc) R H Q := by
  obtain ⟨g, m, j, P, E, ok, hf, q, xo⟩ := h
  refine ⟨g, m, j, _, E, ok, hf, fun x j1 g1 v1 H1 h1 l1 ok1 w1 => ⟨g1, m, _, _, E, ok1, h1, fun y j2 g2 v2 H2 ⟨b, h3, h4⟩ l2 ok2 w2 => ?_, xo.le l1.f⟩, xo⟩
  refine ho B g2 H2 j2 x y _ v1 v2 _ ok2.b (rp_hp (w1.le l2)) (rp_hp w2) h3 fun g3 v H3 l3 ok3 w3 => ⟨b, bl_of w3, ?_⟩
  refine ite_mono h4 (fun h4 => ?_) (fun h4 => ?_)
  · refine ⟨g3, m, _, _, E, ⟨ok3, ok2.s.le l3⟩, h4, fun z j4 g4 v4 H4 ⟨d, h5, p⟩ l4 ok4 w4 => ?_, xo.le ((l1.trans l2).trans l3).f⟩
    exact ho' B g4 H4 _ y z _ v2 v4 Q ok4.b (rp_hp ((w2.le l3).le l4)) (rp_hp w4) h5 fun g5 v5 H5 l5 ok5 w5 => q _ _ g5 v5 H5 p ((((l1.trans l2).trans l3).trans l4).trans l5) ⟨ok5, ok4.s.le l5⟩ w5
  · exact q _ _ g3 _ H3 h4 ((l1.trans l2).trans l3) ⟨ok3, ok2.s.le l3⟩ (.bl _)
theorem e_chain {op op' : CmpOp} {r r' : R2} {φ ψ : D → D → Option D} {ci : Bool} (hr : OpR X (compareOp op) r) (hr' : OpR X (compareOp op') r') (ho : OpS S r φ ci .clean) (ho' : OpS S r' ψ ci .clean)
    (ha : PE X a (rdE S B M W (ofB ci) fa)) (hb : PE X b (rdE S B M W (ofB ci) fb)) (hc : PE X c (rdE S B M W (ofB ci) fc)) (hm : lastMarks [op, op'] [b, c] = false) :
    PE X (.Compare a [op, op'] [b, c] pos) (rdE S B M W .clean (eChain φ ψ fa fb fc)) := PE.imp (pe_chain hr hr' ha hb hc hm) fun _ _ _ h => tChain_rd ho ho' h
theorem t_chain {op op' : CmpOp} {r r' : R2} {φ ψ : D → D → Option D} {ci : Bool} (hr : OpR X (compareOp op) r) (hr' : OpR X (compareOp op') r') (ho : OpS S r φ ci .clean) (ho' : OpS S r' ψ ci .clean)
    (ha : PE X a (rdE S B M W (ofB ci) fa)) (hb : PE X b (rdE S B M W (ofB ci) fb)) (hc : PE X c (rdE S B M W (ofB ci) fc)) (hm : lastMarks [op, op'] [b, c] = false) :
    PT X (.Compare a [op, op'] [b, c] pos) (rdT S B M W (tBl (eChain φ ψ fa fb fc))) := t_of (pt_chain hr hr' ha hb hc hm) fun _ _ _ h => tChain_rd ho ho' (rdE_mix h)

/-! ### and, or, not, if .. else as values -/
theorem e_one {op : BoolOp} {k : Cl} (h : PE X a (rdE S B M W k fa)) : PE X (.BoolOp op [a] pos) (rdE S B M W k fa) := pe_one h
theorem e_and {k : Bool} (hK : X.K = S.K) (ha : PE X a (rdE S B M W (ofB k) fa)) (hb : PE X (.BoolOp .And (b :: rest) pos) (rdE S B M W (ofB k) fb)) : PE X (.BoolOp .And (a :: b :: rest) pos) (rdE S B M W (ofB k) (eAnd fa fb)) :=
  PE.imp (pe_andT ha hb) fun r H Q ⟨g, m, j, P, E, ok, hf, q, xo⟩ =>
    ⟨g, m, j, _, E, ok, hf, fun x j1 g1 v1 H1 ⟨b, h2, p⟩ l1 ok1 w1 => ⟨b, by rw [hK]; exact tru_of (rp_hp w1) (ok1.b.sub k) h2,
      ite_mono p (fun p => ⟨g1, m, _, _, E, ok1, p, fun d j2 g2 v2 H2 p l2 ok2 w2 => q _ _ g2 v2 H2 p (l1.trans l2) ok2 (w2.back l1), xo.le l1.f⟩) (fun p => q _ _ g1 v1 H1 p l1 ok1 w1)⟩, xo⟩
theorem e_or {k : Bool} (hK : X.K = S.K) (ha : PE X a (rdE S B M W (ofB k) fa)) (hb : PE X (.BoolOp .Or (b :: rest) pos) (rdE S B M W (ofB k) fb)) : PE X (.BoolOp .Or (a :: b :: rest) pos) (rdE S B M W (ofB k) (eOr fa fb)) :=
  PE.imp (pe_orT ha hb) fun r H Q ⟨g, m, j, P, E, ok, hf, q, xo⟩ =>
    ⟨g, m, j, _, E, ok, hf, fun x j1 g1 v1 H1 ⟨b, h2, p⟩ l1 ok1 w1 => ⟨b, by rw [hK]; exact tru_of (rp_hp w1) (ok1.b.sub k) h2,
      ite_mono p (fun p => q _ _ g1 v1 H1 p l1 ok1 w1) (fun p => ⟨g1, m, _, _, E, ok1, p, fun d j2 g2 v2 H2 p l2 ok2 w2 => q _ _ g2 v2 H2 p (l1.trans l2) ok2 (w2.back l1), xo.le l1.f⟩)⟩, xo⟩
theorem e_not (hK : X.K = S.K) (ha : PE X a (rdE S B M W .mix fa)) : PE X (.UnaryOp .Not a pos) (rdE S B M W .clean (eNot fa)) :=
  PE.imp (pe_notT ha) fun r H Q ⟨g, m, j, P, E, ok, hf, q, xo⟩ =>
    ⟨g, m, j, _, E, ok, hf, fun x j1 g1 v1 H1 ⟨b, h2, p⟩ l1 ok1 w1 => ⟨_, by rw [hK]; exact tru_of w1 ok1.b.gh h2, q _ _ g1 _ H1 p l1 ok1 (.bl _)⟩, xo⟩
theorem e_if {k : Cl} {tc : Tv J} (hc : PT X c (rdT S B M W tc)) (ha : PE X a (rdE S B M W k fa)) (hb : PE X b (rdE S B M W k fb)) : PE X (.IfExp c a b pos) (rdE S B M W k (eIf tc fa fb)) :=
  PE.imp (pe_ifExp hc ha hb) fun r H Q ⟨g, m, j, P, E, ok, hf, q, xo⟩ =>
    ⟨g, m, j, _, E, ok, hf, fun d j1 g1 H1 p l1 ok1 => ite_mono p (fun p => ⟨g1, m, _, _, E, ok1, p, fun d j2 g2 v2 H2 p l2 ok2 w2 => q _ _ g2 v2 H2 p (l1.trans l2) ok2 (w2.back l1), xo.le l1.f⟩)
      (fun p => ⟨g1, m, _, _, E, ok1, p, fun d j2 g2 v2 H2 p l2 ok2 w2 => q _ _ g2 v2 H2 p (l1.trans l2) ok2 (w2.back l1), xo.le l1.f⟩), xo⟩
end

/-! ### what is walked -/
abbrev Iv (J : Type) := Av J
/-- an item as it comes: what is frozen, or a new tuple of such (to be unpacked, or kept) -/
def YD (S : Js J) (g : Gh) (w : Bool) (d : D) (H : Hp) (x : V) (H' : Hp) : Prop :=
  (H' = H ∧ Rp S g.F d x) ∨ (w = true ∧ ∃ T vs es, x = .ref T ∧ H T = none ∧ H' = upd H T (.tup vs) ∧ d = .tup es ∧ RpL S g.F es vs) ∨
    ∃ T o vs es, x = .ref T ∧ H T = none ∧ o.dict = none ∧ H' = upd H T (.frz o (.tup vs)) ∧ d = .tup es ∧ RpL S g.F es vs
def WalkD (S : Js J) (Jt : It) (ds : List D) (c w : Bool) (g : Gh) : Prop := Walk Jt ds.length (fun H => Same (hp c g) H) (fun i H x H' => ∃ d, ds[i]? = some d ∧ YD S g w d H x H')
def rdI (S : Js J) (B : Bs) (M : Nat → Bool) (W : WX) (c w : Bool) (f : Iv J) : TI := fun r H R => ∃ g m j P E, Ok S B g M r H m j ∧ f m j P E ∧ (∀ ds j' g' H' Jt, P ds j' → Le g g' → Ok S B g' M r H' m j' → WalkD S Jt ds c w g' → R Jt H') ∧ XOut S B M W g E
def seqL : D → Option (List D)
  | .lst xs => some xs
  | .tup xs => some xs
  | .str z => some (z.cps.toList.map fun c => .str ⟨#[c]⟩)
  | _ => none
def iSeq (f : Ev J) (m : Sd) (j : J) (P : List D → J → Prop) (E : XP J) : Prop := f m j (fun d j1 => ∃ xs, seqL d = some xs ∧ P xs j1) E
def rngD (lo : Int) (n : Nat) : List D := (List.range n).map fun k => .int (lo + (k : Nat))
theorem rngD_length (lo : Int) (n : Nat) : (rngD lo n).length = n := by unfold rngD; simp
theorem rngD_get {lo : Int} {n i : Nat} (h : i < n) : (rngD lo n)[i]? = some (.int (lo + (i : Nat))) := by unfold rngD; simp [h]
def LIM : Int := 2 ^ 61
def iRng1 (f : Ev J) (m : Sd) (j : J) (P : List D → J → Prop) (E : XP J) : Prop := f m j (fun d j1 => ∃ n, d = .int n ∧ -LIM ≤ n ∧ n ≤ LIM ∧ P (rngD 0 n.toNat) j1) E
def iRng2 (f f2 : Ev J) (m : Sd) (j : J) (P : List D → J → Prop) (E : XP J) : Prop :=
  f m j (fun d j1 => f2 m j1 (fun d2 j2 => ∃ a b, d = .int a ∧ d2 = .int b ∧ -LIM ≤ a ∧ a ≤ LIM ∧ -LIM ≤ b ∧ b ≤ LIM ∧ P (rngD a (b - a).toNat) j2) E) E
def enumD (xs : List D) : List D := (xs.zipIdx).map fun p => .tup [.int (p.2 : Nat), p.1]
def iEnm (f : Ev J) (m : Sd) (j : J) (P : List D → J → Prop) (E : XP J) : Prop := f m j (fun d j1 => ∃ xs, d = .lst xs ∧ P (enumD xs) j1) E
def zipD (xs ys : List D) : List D := (xs.zip ys).map fun p => .tup [p.1, p.2]
def zipO : D → D → Option (List D)
  | .lst xs, .lst ys => some (zipD xs ys)
  | .tup xs, .tup ys => some (zipD xs ys)
  | _, _ => none
def iZip (f f2 : Ev J) (m : Sd) (j : J) (P : List D → J → Prop) (E : XP J) : Prop := f m j (fun x j1 => f2 m j1 (fun y j2 => ∃ zs, zipO x y = some zs ∧ P zs j2) E) E
section
variable {f1 f2 : Ev J}
instance [ha : MoE f1] : MoA (iSeq f1) := ⟨fun h q x => ha.mo h (fun _ _ ⟨b, e, p⟩ => ⟨b, e, q _ _ p⟩) x⟩
instance [ha : MoE f1] : MoA (iRng1 f1) := ⟨fun h q x => ha.mo h (fun _ _ ⟨b, e1, e2, e3, p⟩ => ⟨b, e1, e2, e3, q _ _ p⟩) x⟩
instance [ha : MoE f1] [hb : MoE f2] : MoA (iRng2 f1 f2) := ⟨fun h q x => ha.mo h (fun _ _ p => hb.mo p (fun _ _ ⟨a, b, e1, e2, e3, e4, e5, e6, p⟩ => ⟨a, b, e1, e2, e3, e4, e5, e6, q _ _ p⟩) x) x⟩
instance [ha : MoE f1] : MoA (iEnm f1) := ⟨fun h q x => ha.mo h (fun _ _ ⟨b, e, p⟩ => ⟨b, e, q _ _ p⟩) x⟩
instance [ha : MoE f1] [hb : MoE f2] : MoA (iZip f1 f2) := ⟨fun h q x => ha.mo h (fun _ _ p => hb.mo p (fun _ _ ⟨b, e, p⟩ => ⟨b, e, q _ _ p⟩) x) x⟩
end
section
open PyProof.Rows hiding St
variable {X : Cx}
/-- a list, a tuple or a text -/
def iAny (K : PySem.W.Frag) (t : TE) : TI := fun σ H R => t σ H fun v H1 => (∃ a, v = .ref a ∧ (∃ xs, SqL K H1 a xs) ∧ R (Itl K a) H1) ∨ (∃ a, v = .ref a ∧ (∃ xs, SqT K H1 a xs) ∧ R (Itt K a) H1) ∨ ∃ x, v = .str x ∧ R (Its x) H1
theorem pi_any {l tg : Expr} {tl : TE} (hl : PE X l tl) : PI X tg l (iAny X.K tl) := by
  refine ⟨fun pins s σ H R I h => ?_⟩
  refine thn (hl.run pins s σ H _ I h) fun v s1 ⟨x, H1, I1, r1, q1⟩ => ?_
  rcases q1 with ⟨a, e, ⟨xs, hq⟩, q⟩ | ⟨a, e, ⟨xs, hq⟩, q⟩ | ⟨x, ex, q⟩
  · subst e
    cases r1
    obtain ⟨its, rv, p, hz⟩ := I1.list hq
    refine wpAny_pyIter_list p.isList ?_
    exact pi_one (tk := s1.toks) I1 _ (turn_list a _) ⟨_, Heap.get?_push_size _ rfl, rfl, rfl⟩ q
  · subst e
    cases r1
    obtain ⟨its, rv, p, hz⟩ := I1.tuple hq
    refine wpAny_pyIter_tuple (show s1.heap.IsTuple a its.toArray from p) ?_
    exact pi_one (tk := s1.toks) I1 _ (turn_tuple a _) ⟨_, Heap.get?_push_size _ rfl, rfl, rfl⟩ q
  · subst ex
    obtain ⟨t, rfl⟩ := r1
    cases ha : x.cps.all (· < 128)
    · exact wpAny_pyIter_wide ha (pi_one (tk := s1.toks) I1 _ (turn_str _ x t "str_iterator" (.inr rfl)) ⟨_, Heap.get?_push_size _ rfl, rfl, rfl⟩ q)
    · exact wpAny_pyIter_ascii ha (pi_one (tk := s1.toks) I1 _ (turn_str _ x t "str_ascii_iterator" (.inl rfl)) ⟨_, Heap.get?_push_size _ rfl, rfl, rfl⟩ q)
end
section
variable {S : Js J} {B : Bs} {M : Nat → Bool} {W : WX} {X : Cx} {tg e a b c : Expr} {es rest : List Expr} {pos p : Pos} {f fa fb fc : Ev J}
theorem walkD_seq {K : PySem.W.Frag} {p : Addr} {ds : List D} {vs : List V} {k : Bool} {g : Gh} (hK : K = S.K) (h : g.F p = some (.lst vs) ∨ (k = false ∧ g.G p = some (.lst vs))) (fg : Same g.F g.G) (r : RpL S g.F ds vs) : WalkD S (Itl K p) ds k false g := by
  have w := walk_list (K := K) (a := p) (xs := vs)
  rw [← r.length] at w
  refine w.mono (fun H s => .of (s _ _ ?_)) fun i H x H' hi _ ⟨e1, e2⟩ => ?_
  · rcases h with h | ⟨rfl, h⟩
    · cases k
      · exact fg _ _ h
      · exact h
    · exact h
  · obtain ⟨d, h1, h2⟩ := r.get' e2
    exact ⟨d, h1, .inl ⟨e1, h2⟩⟩
theorem i_seq (hK : X.K = S.K) (h : PE X e (rdE S B M W .clean f)) : PI X tg e (rdI S B M W true false (iSeq f)) :=
  PI.imp (pi_any h) fun r H R ⟨g, m, j, P, E, ok, hf, q, xo⟩ => by
    refine ⟨g, m, j, _, E, ok, hf, fun d j1 g1 v H1 hh l1 ok1 w => ?_, xo⟩
    obtain ⟨xs, hx, p⟩ := hh
    unfold seqL at hx
    split at hx
    · cases hx
      obtain ⟨a, vs, rfl, ha, ra⟩ := lst_of w
      exact .inl ⟨a, rfl, ⟨vs, .of ((ok1.b.fg.trans ok1.b.gh) _ _ ha)⟩, q _ _ g1 H1 _ p l1 ok1 (walkD_seq hK (.inl ha) ok1.b.fg ra)⟩
    · cases hx
      obtain ⟨a, vs, rfl, ha, ra⟩ := tup_of w
      refine .inr (.inl ⟨a, rfl, ⟨vs, by rw [hK]; exact sqT_same (ok1.b.fg.trans ok1.b.gh) ha.t⟩, q _ _ g1 H1 _ p l1 ok1 ?_⟩)
      have w := walk_tup (K := X.K) (a := a) (xs := vs)
      rw [← ra.length] at w
      refine w.mono (fun H s => by rw [hK]; exact sqT_same s ha.t) fun i H x H' hi _ ⟨e1, e2⟩ => ?_
      obtain ⟨d, h1, h2⟩ := ra.get' e2
      exact ⟨d, h1, .inl ⟨e1, h2⟩⟩
    · rename_i z
      cases hx
      rw [str_of w]
      refine .inr (.inr ⟨_, rfl, q _ _ g1 H1 _ p l1 ok1 ?_⟩)
      have w := walk_str (z := z)
      have el : (z.cps.toList.map fun c => D.str ⟨#[c]⟩).length = z.cps.size := by simp
      unfold WalkD
      rw [el]
      refine w.mono (fun H s => trivial) fun i H x H' hi _ ⟨e1, c, e2, e3⟩ => ?_
      refine ⟨.str ⟨#[c]⟩, ?_, .inl ⟨e1, by rw [e3]; exact .str _⟩⟩
      rw [List.getElem?_map]
      simp [e2]
    · cases hx
/-- an owned list, walked where it does not change -/
theorem i_own {i : Nat} {x : Str} (hK : X.K = S.K) (hM : M i = true) (hN : X.N[i]? = some x) (hv : Vis X.env.scope x) (hd : (x == ("__debug__" : Str)) = false) (hcd : (x == ("__classdict__" : Str)) = false) : PI X tg (.Name x pos) (rdI S B M W false false (iSeq (eVar i))) :=
  PI.imp (pi_list (pe_var hN hv hd hcd)) fun r H R ⟨g, m, j, P, E, ok, hf, q, xo⟩ => by
    obtain ⟨d, he, ys, hy, p⟩ := hf
    obtain ⟨a, h1, n, ⟨xs, vs, rfl, e2, t⟩ | ⟨kds, kvs, rfl, _⟩ | ⟨kds, kvs, rfl, _⟩⟩ := ok.s.ow i d he hM
    · cases hy
      exact ⟨_, h1, a, rfl, ⟨vs, .of (ok.b.gh _ _ e2)⟩, q _ _ g H _ p (Le.refl g) ok (walkD_seq hK (.inr ⟨rfl, e2⟩) ok.b.fg t)⟩
    · cases hy
    · cases hy
theorem walkD_rng {lo : Int} {n : Nat} {g : Gh} {k : Bool} : WalkD S (Itr lo n) (rngD lo n) k false g := by
  unfold WalkD
  rw [rngD_length]
  exact (walk_range (lo := lo) (n := n)).mono (fun _ _ => trivial) fun i H x H' hi _ ⟨e1, e2⟩ => ⟨_, rngD_get hi, .inl ⟨e1, by rw [e2]; exact .int _⟩⟩
theorem i_rng1 (hg : Gl X "range") (hm : X.mg "range" = none) (ha : PE X a (rdE S B M W .mix fa)) (hs : starEach [a] X.env = [(false, eval a X.env)]) : PI X tg (.Call (.Name "range" p) [a] [] pos) (rdI S B M W true false (iRng1 fa)) :=
  PI.imp (pi_range1 hg hm (pa_cons ha pa_nil hs) hs) fun r H R ⟨g, m, j, P, E, ok, hf, q, xo⟩ => by
    have hl : LIM = 2 ^ 61 := rfl
    exact ⟨g, m, j, _, E, ok, hf, fun d j1 g1 v H1 ⟨n, ed, c1, c2, p⟩ l1 ok1 w => ⟨n, by subst ed; rw [int_of w], by omega, by omega, q _ _ g1 H1 _ p l1 ok1 walkD_rng⟩, xo⟩
theorem i_rng2 (hg : Gl X "range") (hm : X.mg "range" = none) (ha : PE X a (rdE S B M W .mix fa)) (hb : PE X b (rdE S B M W .mix fb)) (hs : starEach [a, b] X.env = [(false, eval a X.env), (false, eval b X.env)]) (hs2 : starEach [b] X.env = [(false, eval b X.env)]) :
    PI X tg (.Call (.Name "range" p) [a, b] [] pos) (rdI S B M W true false (iRng2 fa fb)) :=
  PI.imp (pi_range2 hg hm (pa_cons ha (pa_cons hb pa_nil hs2) (by rw [hs, hs2])) hs hs2) fun r H R ⟨g, m, j, P, E, ok, hf, q, xo⟩ => by
    have hl : LIM = 2 ^ 61 := rfl
    exact ⟨g, m, j, _, E, ok, hf, fun d j1 g1 v H1 h1 l1 ok1 w => ⟨g1, m, _, _, E, ok1, h1, fun d2 j2 g2 v2 H2 ⟨n, k, e1, e2, c1, c2, c3, c4, p⟩ l2 ok2 w2 => ⟨n, k, by subst e1 e2; rw [int_of w, int_of w2], ⟨by omega, by omega, by omega, by omega⟩, q _ _ g2 H2 _ p (l1.trans l2) ok2 walkD_rng⟩, xo.le l1.f⟩, xo⟩
theorem enumD_length (xs : List D) : (enumD xs).length = xs.length := by unfold enumD; simp
theorem enumD_get {xs : List D} {i : Nat} {d : D} (h : xs[i]? = some d) : (enumD xs)[i]? = some (.tup [.int (i : Nat), d]) := by
  unfold enumD
  rw [List.getElem?_map, List.getElem?_zipIdx, h]
  simp
theorem i_enum {elts : List Expr} {kk : Nat} {tpos : Pos} (hK : X.K = S.K) (hg : Gl X "enumerate") (hm : X.mg "enumerate" = none) (ha : PE X a (rdE S B M W .clean fa)) (hs : starEach [a] X.env = [(false, eval a X.env)]) :
    PI X (.Tuple elts kk tpos) (.Call (.Name "enumerate" p) [a] [] pos) (rdI S B M W true true (iEnm fa)) :=
  PI.imp (pi_enum hg hm (pa_cons ha pa_nil hs) hs) fun r H R ⟨g, m, j, P, E, ok, hf, q, xo⟩ => by
    refine ⟨g, m, j, _, E, ok, hf, fun d j1 g1 v H1 ⟨xs, ed, p⟩ l1 ok1 w => ?_, xo⟩
    subst ed
    obtain ⟨a, vs, rfl, ha, ra⟩ := lst_of w
    refine ⟨a, vs, rfl, .of ((ok1.b.fg.trans ok1.b.gh) _ _ ha), q _ _ g1 H1 _ p l1 ok1 ?_⟩
    unfold WalkD
    rw [enumD_length, ra.length]
    refine (walk_enum (K := X.K) (a := a) (xs := vs)).mono (fun H s => .of (s _ _ ha)) fun i H x H' hi _ y => ?_
    obtain ⟨T, x1, y1, e1, e2, e3, e4, e5⟩ := y
    obtain ⟨d, h2, h3⟩ := ra.get' e5
    cases e4
    exact ⟨_, enumD_get h2, .inr (.inl ⟨rfl, T, _, _, e1, e2, e3, rfl, .cons (.int _) (.cons h3 .nil)⟩)⟩
theorem zipD_length (xs ys : List D) : (zipD xs ys).length = min xs.length ys.length := by unfold zipD; simp
theorem zipD_get {xs ys : List D} {i : Nat} {d e : D} (h : xs[i]? = some d) (h' : ys[i]? = some e) : (zipD xs ys)[i]? = some (.tup [d, e]) := by
  unfold zipD
  rw [List.getElem?_map, List.getElem?_zip_eq_some (z := (d, e)) |>.mpr ⟨h, h'⟩]
  rfl
theorem walk_zipT {K : PySem.W.Frag} {a b : Addr} {xs ys : List V} {n : Nat} (hn : n = min xs.length ys.length) : Walk (RZ.ItzT K a b) n (fun H => SqT K H a xs ∧ SqT K H b ys) (YPair (fun i => xs[i]?) (fun i => ys[i]?)) := by
  subst hn
  refine ⟨fun i _ hi q => ?_, fun _ q => ⟨xs, ys, q.1, q.2, by omega⟩, fun i H v H' _ q y => ?_⟩
  · have h1 : i < xs.length := by omega
    have h2 : i < ys.length := by omega
    exact ⟨xs, ys, xs[i], ys[i], q.1, q.2, by simp [h1], by simp [h2]⟩
  · obtain ⟨T, x, z, h1, h2, h3, h4, h5⟩ := y
    exact ⟨T, x, z, h1, h2, h3, h4 xs q.1, h5 ys q.2⟩
theorem i_zip {elts : List Expr} {kk : Nat} {tpos : Pos} (hK : X.K = S.K) (hg : Gl X "zip") (hm : X.mg "zip" = none) (ha : PE X a (rdE S B M W .clean fa)) (hb : PE X b (rdE S B M W .clean fb))
    (hs : starEach [a, b] X.env = (false, eval a X.env) :: starEach [b] X.env) (hs2 : starEach [b] X.env = [(false, eval b X.env)]) (hpl : (backTo pos (starEach [b] X.env)).any (·.1) = false) :
    PI X (.Tuple elts kk tpos) (.Call (.Name "zip" p) [a, b] [] pos) (rdI S B M W true true (iZip fa fb)) :=
  PI.imp (RZ.pi_zipA hg hm (pa_cons ha (pa_cons hb pa_nil hs2) hs) hs hpl) fun r H R ⟨g, m, j, P, E, ok, hf, q, xo⟩ => by
    refine ⟨g, m, j, _, E, ok, hf, fun x j1 g1 v H1 h1 l1 ok1 w => ⟨g1, m, _, _, E, ok1, h1, fun y j2 g2 v2 H2 ⟨zs, hz, p⟩ l2 ok2 w2 => ?_, xo.le l1.f⟩, xo⟩
    unfold zipO at hz
    split at hz
    · cases hz
      obtain ⟨a, vs, rfl, ha, ra⟩ := lst_of (w.le l2)
      obtain ⟨b, ws, rfl, hb, rb⟩ := lst_of w2
      have fh := ok2.b.fg.trans ok2.b.gh
      refine ⟨a, b, vs, ws, rfl, .inl ⟨.of (fh _ _ ha), .of (fh _ _ hb), q _ _ g2 H2 _ p (l1.trans l2) ok2 ?_⟩⟩
      unfold WalkD
      refine (walk_zip (K := X.K) (a := a) (b := b) (xs := vs) (ys := ws) (by rw [zipD_length, ra.length, rb.length])).mono (fun H s => ⟨.of (s _ _ ha), .of (s _ _ hb)⟩) fun i H x H' hi _ y => ?_
      obtain ⟨T, x1, y1, e1, e2, e3, e4, e5⟩ := y
      obtain ⟨d1, h3, h4⟩ := ra.get' e4
      obtain ⟨d2, h5, h6⟩ := rb.get' e5
      exact ⟨_, zipD_get h3 h5, .inr (.inl ⟨rfl, T, _, _, e1, e2, e3, rfl, .cons h4 (.cons h6 .nil)⟩)⟩
    · cases hz
      obtain ⟨a, vs, rfl, ha, ra⟩ := tup_of (w.le l2)
      obtain ⟨b, ws, rfl, hb, rb⟩ := tup_of w2
      have fh := ok2.b.fg.trans ok2.b.gh
      refine ⟨a, b, vs, ws, rfl, .inr ⟨by rw [hK]; exact sqT_same fh ha.t, by rw [hK]; exact sqT_same fh hb.t, q _ _ g2 H2 _ p (l1.trans l2) ok2 ?_⟩⟩
      unfold WalkD
      refine (walk_zipT (K := X.K) (a := a) (b := b) (xs := vs) (ys := ws) (by rw [zipD_length, ra.length, rb.length])).mono (fun H s => ⟨by rw [hK]; exact sqT_same s ha.t, by rw [hK]; exact sqT_same s hb.t⟩) fun i H x H' hi _ y => ?_
      obtain ⟨T, x1, y1, e1, e2, e3, e4, e5⟩ := y
      obtain ⟨d1, h3, h4⟩ := ra.get' e4
      obtain ⟨d2, h5, h6⟩ := rb.get' e5
      exact ⟨_, zipD_get h3 h5, .inr (.inl ⟨rfl, T, _, _, e1, e2, e3, rfl, .cons h4 (.cons h6 .nil)⟩)⟩
    · cases hz
end
end Mp

/-! Mp6: targets, comprehensions, list(range(..)). -/
namespace Mp
open PySem PySem.Spec L2
variable {J : Type}

section
variable {S : Js J} {B : Bs} {M : Nat → Bool} {X : Cx} {g g' : Gh} {r : St} {m : Sd} {H : Hp} {j : J} {i : Nat} {d : D} {v : V}
theorem Slots.set_fr (h : Slots S g M r m) (hM : M i = false) (rp : Rp S g.F d v) : Slots S g M (r.set i (some v)) (m.set i (some d)) := by
  have get : ∀ {k : Nat} {e : D}, (m.set i (some d))[k]? = some (some e) → (k = i ∧ e = d ∧ i < m.length) ∨ (k ≠ i ∧ m[k]? = some (some e)) := fun {k e} q => by
    by_cases hk : k = i
    · subst hk
      by_cases hl : k < m.length
      · rw [List.getElem?_set_self hl] at q
        cases q
        exact .inl ⟨rfl, rfl, hl⟩
      · rw [List.getElem?_eq_none (by simpa using hl)] at q
        cases q
    · rw [List.getElem?_set_ne (Ne.symm hk)] at q
      exact .inr ⟨hk, q⟩
  refine ⟨by simpa using h.len, fun k e q hk => ?_, fun k e q hk => ?_, fun k l a e e' q1 q2 hk hl h1 h2 => ?_⟩
  · rcases get q with ⟨rfl, rfl, hl⟩ | ⟨hn, q⟩
    · exact ⟨v, by rw [List.getElem?_set_self (by rw [h.len]; exact hl)], rp⟩
    · obtain ⟨w, h1, h2⟩ := h.fr k e q hk
      exact ⟨w, by rw [List.getElem?_set_ne (Ne.symm hn)]; exact h1, h2⟩
  · rcases get q with ⟨rfl, rfl, hl⟩ | ⟨hn, q⟩
    · rw [hM] at hk; cases hk
    · obtain ⟨w, h1, h2⟩ := h.ow k e q hk
      exact ⟨w, by rw [List.getElem?_set_ne (Ne.symm hn)]; exact h1, h2⟩
  · rcases get q1 with ⟨rfl, rfl, _⟩ | ⟨n1, q1⟩
    · rw [hM] at hk; cases hk
    · rcases get q2 with ⟨rfl, rfl, _⟩ | ⟨n2, q2⟩
      · rw [hM] at hl; cases hl
      · rw [List.getElem?_set_ne (Ne.symm n1)] at h1
        rw [List.getElem?_set_ne (Ne.symm n2)] at h2
        exact h.dj k l a e e' q1 q2 hk hl h1 h2
/-- an owned thing comes to a slot -/
theorem Slots.set_ow {a : Addr} (h : Slots S g M r m) (hM : M i = true) (o : Own S g d a) (apart : ∀ k e, k ≠ i → M k = true → m[k]? = some (some e) → r[k]? ≠ some (some (.ref a))) : Slots S g M (r.set i (some (.ref a))) (m.set i (some d)) := by
  have get : ∀ {k : Nat} {e : D}, (m.set i (some d))[k]? = some (some e) → (k = i ∧ e = d ∧ i < m.length) ∨ (k ≠ i ∧ m[k]? = some (some e)) := fun {k e} q => by
    by_cases hk : k = i
    · subst hk
      by_cases hl : k < m.length
      · rw [List.getElem?_set_self hl] at q
        cases q
        exact .inl ⟨rfl, rfl, hl⟩
      · rw [List.getElem?_eq_none (by simpa using hl)] at q
        cases q
    · rw [List.getElem?_set_ne (Ne.symm hk)] at q
      exact .inr ⟨hk, q⟩
  refine ⟨by simpa using h.len, fun k e q hk => ?_, fun k e q hk => ?_, fun k l b e e' q1 q2 hk hl h1 h2 => ?_⟩
  · rcases get q with ⟨rfl, rfl, hl⟩ | ⟨hn, q⟩
    · rw [hM] at hk; cases hk
    · obtain ⟨w, h1, h2⟩ := h.fr k e q hk
      exact ⟨w, by rw [List.getElem?_set_ne (Ne.symm hn)]; exact h1, h2⟩
  · rcases get q with ⟨rfl, rfl, hl⟩ | ⟨hn, q⟩
    · exact ⟨a, by rw [List.getElem?_set_self (by rw [h.len]; exact hl)], o⟩
    · obtain ⟨w, h1, h2⟩ := h.ow k e q hk
      exact ⟨w, by rw [List.getElem?_set_ne (Ne.symm hn)]; exact h1, h2⟩
  · rcases get q1 with ⟨rfl, rfl, hl1⟩ | ⟨n1, q1'⟩
    · rcases get q2 with ⟨rfl, rfl, _⟩ | ⟨n2, q2⟩
      · rfl
      · rw [List.getElem?_set_self (by rw [h.len]; exact hl1)] at h1
        cases h1
        rw [List.getElem?_set_ne (Ne.symm n2)] at h2
        exact absurd h2 (apart l e' n2 hl q2)
    · rcases get q2 with ⟨rfl, rfl, hl2⟩ | ⟨n2, q2⟩
      · rw [List.getElem?_set_self (by rw [h.len]; exact hl2)] at h2
        cases h2
        rw [List.getElem?_set_ne (Ne.symm n1)] at h1
        exact absurd h1 (apart k e n1 hk (by assumption))
      · rw [List.getElem?_set_ne (Ne.symm n1)] at h1
        rw [List.getElem?_set_ne (Ne.symm n2)] at h2
        exact h.dj k l b e e' q1' q2 hk hl h1 h2
/-- what is seen, not frozen, and none of the slots' -/
theorem Slots.apart_fresh {a : Addr} (h : Slots S g M r m) (n : g.G a = none) : ∀ k e, k ≠ i → M k = true → m[k]? = some (some e) → r[k]? ≠ some (some (.ref a)) := fun k e _ hk q z => by
  obtain ⟨b, h1, h2⟩ := h.ow k e q hk
  rw [z] at h1
  cases h1
  obtain ⟨o, ho⟩ := h2.in_g
  rw [n] at ho
  cases ho
end

/-! ### targets -/
abbrev Gv := D → Sd → Option Sd
abbrev Gvs := List D → Sd → Option Sd
def gNm (i : Nat) : Gv := fun d m => some (m.set i (some d))
def gsNil : Gvs := fun ds m => match ds with | [] => some m | _ => none
def gsCons (γ : Gv) (γs : Gvs) : Gvs := fun ds m => match ds with
  | d :: ds => match γ d m with
    | some m1 => γs ds m1
    | none => none
  | [] => none
def gTp (γs : Gvs) : Gv := fun d m => match d with
  | .tup ds => γs ds m
  | _ => none
/-- an item of a walk: data, or (w) a tuple just made of data -/
def RpX (S : Js J) (F : Hp) (w : Bool) (d : D) (v : V) : Prop := Rp S F d v ∨ (w = true ∧ ∃ T vs es, v = .ref T ∧ F T = some (.tup vs) ∧ d = .tup es ∧ RpL S F es vs)
section
variable (S : Js J) (B : Bs) (M : Nat → Bool)
def rdG (w : Bool) (ks : List Nat) (γ : Gv) : TG := fun v r H Q => ∃ g m j d m', Ok S B g M r H m j ∧ RpX S g.F w d v ∧ γ d m = some m' ∧ ∀ r', Ok S B g M r' H m' j → r'.length = r.length → (∀ k, k ∉ ks → r'[k]? = r[k]?) → Q r' H
def rdGs (ks : List Nat) (γ : Gvs) : TGs := fun vs r H Q => ∃ g m j ds m', Ok S B g M r H m j ∧ RpL S g.F ds vs ∧ γ ds m = some m' ∧ ∀ r', Ok S B g M r' H m' j → r'.length = r.length → (∀ k, k ∉ ks → r'[k]? = r[k]?) → Q r' H
end
theorem PG.imp {X : Cx} {e : Expr} {t t' : TG} (h : PG X e t) (i : ∀ v r H Q, t' v r H Q → t v r H Q) : PG X e t' := ⟨fun pins s σ H v u Q I rv q => h.run pins s σ H v u Q I rv (i _ _ _ _ q)⟩
theorem PGs.imp {X : Cx} {e : List Expr} {t t' : TGs} (h : PGs X e t) (i : ∀ v r H Q, t' v r H Q → t v r H Q) : PGs X e t' := ⟨fun pins s σ H v u Q I rv q => h.run pins s σ H v u Q I rv (i _ _ _ _ q)⟩
section
variable {S : Js J} {B : Bs} {M : Nat → Bool} {X : Cx} {e : Expr} {es : List Expr} {pos : Pos}
theorem g_name {i : Nat} {x : Str} (hM : M i = false) (hN : X.N.Nodup) (hi : X.N[i]? = some x) (hx : Loc X.env.scope x) (hf : X.fn x = true ∨ X.env.scope.names.lookup x = some .local) : PG X (.Name x pos) (rdG S B M false [i] (gNm i)) :=
  PG.imp (pg_name hN hi hx hf) fun v r H Q ⟨g, m, j, d, m', ok, rp, e, q⟩ => by
    unfold gNm at e
    cases e
    have rp : Rp S g.F d v := rp.elim id fun z => nomatch z.1
    exact q _ ⟨ok.b, ok.s.set_fr hM rp⟩ (by simp) fun k hk => List.getElem?_set_ne (by simpa using fun z => hk (by simp [z]))
theorem gs_nil {ks : List Nat} : PGs X [] (rdGs S B M ks gsNil) := PGs.imp pgs_nil fun vs r H Q ⟨g, m, j, ds, m', ok, rp, e, q⟩ => by
  unfold gsNil at e
  split at e
  · cases e
    cases rp
    exact ⟨rfl, q r ok rfl fun _ _ => rfl⟩
  · cases e
theorem gs_cons {ks ks' : List Nat} {γ : Gv} {γs : Gvs} (h1 : PG X e (rdG S B M false ks γ)) (h2 : PGs X es (rdGs S B M ks' γs)) (hs : (assignEach (e :: es) X.env).map (·.2) = assign e X.env :: (assignEach es X.env).map (·.2)) :
    PGs X (e :: es) (rdGs S B M (ks ++ ks') (gsCons γ γs)) := PGs.imp (pgs_cons h1 h2 hs) fun vs r H Q ⟨g, m, j, ds, m', ok, rp, e, q⟩ => by
  unfold gsCons at e
  split at e
  · split at e
    · cases rp with
      | cons rp1 rp2 =>
        refine ⟨_, _, rfl, g, m, j, _, _, ok, .inl rp1, by assumption, fun r1 ok1 l1 k1 => ⟨g, _, j, _, _, ok1, rp2, e, fun r2 ok2 l2 k2 => ?_⟩⟩
        refine q r2 ok2 (l2.trans l1) fun k hk => ?_
        rw [List.mem_append, not_or] at hk
        exact (k2 k hk.2).trans (k1 k hk.1)
    · cases e
  · cases e
theorem g_tup {w : Bool} {kt n : Nat} {ks : List Nat} {γs : Gvs} (hK : X.K = S.K) (hc : X.calm = true) (h : PGs X es (rdGs S B M ks γs)) (hn : (assignEach es X.env).length = n) (hst : (assignEach es X.env).findIdx? (·.1) = none) (hl : ∀ ds m m', γs ds m = some m' → ds.length = n) :
    PG X (.Tuple es kt pos) (rdG S B M w ks (gTp γs)) := PG.imp (pg_tup hc h hn hst) fun v r H Q ⟨g, m, j, d, m', ok, rp, e, q⟩ => by
  unfold gTp at e
  split at e
  · rcases rp with rp | ⟨_, T, vs, es, rfl, hT, he, ra⟩
    · obtain ⟨a, vs, rfl, ha, ra⟩ := tup_of rp
      exact ⟨a, vs, rfl, by rw [hK]; exact sqT_same (ok.b.fg.trans ok.b.gh) ha.t, by rw [← ra.length]; exact hl _ _ _ e, g, m, j, _, _, ok, ra, e, q⟩
    · cases he
      exact ⟨T, vs, rfl, .of ((ok.b.fg.trans ok.b.gh) _ _ hT), by rw [← ra.length]; exact hl _ _ _ e, g, m, j, _, _, ok, ra, e, q⟩
  · cases e
theorem gsNil_len : ∀ ds m m', gsNil ds m = some m' → ds.length = 0 := fun ds m m' e => by
  unfold gsNil at e
  split at e
  · rfl
  · cases e
theorem gsCons_len {γ : Gv} {γs : Gvs} {n : Nat} (h : ∀ ds m m', γs ds m = some m' → ds.length = n) : ∀ ds m m', gsCons γ γs ds m = some m' → ds.length = n + 1 := fun ds m m' e => by
  unfold gsCons at e
  split at e
  · split at e
    · rw [List.length_cons, h _ _ _ e]
    · cases e
  · cases e
end

/-! ### comprehensions -/
theorem wipe_get {σ : St} : ∀ (vs : List Nat) (i : Nat), (wipe σ vs)[i]? = if i ∈ vs then (σ[i]?).map (fun _ => none) else σ[i]?
  | [], i => by simp [wipe]
  | v :: vs, i => by
    unfold wipe
    by_cases h : i = v
    · subst h
      rw [if_pos List.mem_cons_self]
      by_cases hl : i < σ.length
      · rw [List.getElem?_set_self (by rw [wipe_length]; exact hl), List.getElem?_eq_getElem hl]; rfl
      · rw [List.getElem?_eq_none (by rw [List.length_set, wipe_length]; omega), List.getElem?_eq_none (by omega)]; rfl
    · rw [List.getElem?_set_ne (Ne.symm h), wipe_get vs i]
      by_cases hm : i ∈ vs
      · rw [if_pos hm, if_pos (List.mem_cons_of_mem _ hm)]
      · rw [if_neg hm, if_neg (by simp [h, hm])]
theorem wipe_congr {r r' : St} {vs : List Nat} (hl : r'.length = r.length) (h : ∀ k, k ∉ vs → r'[k]? = r[k]?) : wipe r' vs = wipe r vs := by
  apply List.ext_getElem?
  intro i
  rw [wipe_get, wipe_get]
  by_cases hm : i ∈ vs
  · rw [if_pos hm, if_pos hm]
    by_cases hi : i < r.length
    · rw [List.getElem?_eq_getElem hi, List.getElem?_eq_getElem (by omega)]; rfl
    · rw [List.getElem?_eq_none (by omega), List.getElem?_eq_none (by omega)]
  · rw [if_neg hm, if_neg hm]; exact h i hm
theorem wipe_wipe (r : St) (vs : List Nat) : wipe (wipe r vs) vs = wipe r vs := wipe_congr (wipe_length _ _) fun k hk => by rw [wipe_get, if_neg hk]
def wipeD (m : Sd) : List Nat → Sd
  | [] => m
  | v :: vs => (wipeD m vs).set v none
theorem wipeD_length (m : Sd) : ∀ vs, (wipeD m vs).length = m.length
  | [] => rfl
  | v :: vs => by unfold wipeD; rw [List.length_set, wipeD_length]
theorem wipeD_some {m : Sd} {i : Nat} {d : D} : ∀ {vs : List Nat}, (wipeD m vs)[i]? = some (some d) → m[i]? = some (some d) ∧ i ∉ vs
  | [], h => ⟨h, by simp⟩
  | v :: vs, h => by
    unfold wipeD at h
    by_cases hi : v = i
    · subst hi
      by_cases hv : v < (wipeD m vs).length
      · rw [List.getElem?_set_self hv] at h; cases h
      · rw [List.getElem?_eq_none (by simpa using hv)] at h; cases h
    · rw [List.getElem?_set_ne hi] at h
      obtain ⟨h1, h2⟩ := wipeD_some h
      exact ⟨h1, by simp only [List.mem_cons, not_or]; exact ⟨fun e => hi e.symm, h2⟩⟩
theorem Slots.wipe {S : Js J} {g : Gh} {M : Nat → Bool} {r : St} {m : Sd} (h : Slots S g M r m) (vs : List Nat) : Slots S g M (wipe r vs) (wipeD m vs) :=
  ⟨by rw [wipe_length, wipeD_length]; exact h.len, fun i d e q => by
    obtain ⟨e, n⟩ := wipeD_some e
    obtain ⟨v, h1, h2⟩ := h.fr i d e q
    exact ⟨v, by rw [wipe_get, if_neg n]; exact h1, h2⟩, fun i d e q => by
    obtain ⟨e, n⟩ := wipeD_some e
    obtain ⟨v, h1, h2⟩ := h.ow i d e q
    exact ⟨v, by rw [wipe_get, if_neg n]; exact h1, h2⟩, fun i k a d e q1 q2 hi hk h1 h2 => by
    obtain ⟨q1, n1⟩ := wipeD_some q1
    obtain ⟨q2, n2⟩ := wipeD_some q2
    rw [wipe_get, if_neg n1] at h1
    rw [wipe_get, if_neg n2] at h2
    exact h.dj i k a d e q1 q2 hi hk h1 h2⟩
section
variable {S : Js J} {B : Bs} {g : Gh} {H : Hp} {j : J} {p : Addr}
/-- a thing that nobody sees is written -/
theorem OkB.out (k : OkB S B g H j) {o o' : HO} (h : H p = some o') (ho : ∀ x y, o' ≠ .frz x y) (n1 : g.G p = none) (n2 : ¬ g.A p) (n3 : B.H0 p = none) : OkB S B g (upd H p o) j := by
  refine ⟨k.fg, fun b u e => ?_, k.ga, S.frame k.jr (Same.refl _) fun b z => upd_ne fun q => n2 (q ▸ z), k.f0, k.g0, k.a0, fun b u e n => ?_, fun b e => ?_, ?_⟩
  · rw [upd_ne (ne_of_none e n1)]; exact k.gh b u e
  · rw [upd_ne (ne_of_none e n3)]; exact k.h0 b u e n
  · by_cases hb : b = p
    · subst hb; rw [upd_same] at e; cases e
    · rw [upd_ne hb] at e; exact k.h1 b e
  · obtain ⟨o1, u1, e1⟩ := k.sm
    refine ⟨o1, u1, ?_⟩
    rw [upd_ne fun z => ho o1 u1 (by rw [z, h] at e1; exact Option.some.inj e1)]
    exact e1
/-- .. is new to the heap, and nobody sees it -/
theorem OkB.lay (k : OkB S B g H j) (o : HO) (h : H p = none) : OkB S B g (upd H p o) j := by
  obtain ⟨_, n1, n2, n3⟩ := k.hn h
  refine ⟨k.fg, fun b u e => ?_, k.ga, S.frame k.jr (Same.refl _) fun b z => upd_ne fun q => n2 (q ▸ z), k.f0, k.g0, k.a0, fun b u e n => ?_, fun b e => ?_, ?_⟩
  · rw [upd_ne (ne_of_none e n1)]; exact k.gh b u e
  · rw [upd_ne (ne_of_none e n3)]; exact k.h0 b u e n
  · by_cases hb : b = p
    · subst hb; rw [upd_same] at e; cases e
    · rw [upd_ne hb] at e; exact k.h1 b e
  · obtain ⟨o1, u1, e1⟩ := k.sm
    exact ⟨o1, u1, by rw [upd_ne (ne_of_none e1 h)]; exact e1⟩
/-- .. is seen from now on -/
theorem OkB.adopt (k : OkB S B g H j) {o : HO} (h : H p = some o) (n1 : g.G p = none) (n2 : ¬ g.A p) (n3 : B.H0 p = none) : OkB S B (g.see p o) H j := by
  refine ⟨k.fg.trans (same_new n1), fun b u e => ?_, fun b u e => ?_, k.jr, k.f0, fun b u e => ?_, k.a0, k.h0, k.h1, k.sm⟩
  · have e' : upd g.G p o b = some u := e
    by_cases hb : b = p
    · subst hb; rw [upd_same] at e'; rw [h]; exact e'
    · rw [upd_ne hb] at e'; exact k.gh b u e'
  · have e' : upd g.G p o b = some u := e
    by_cases hb : b = p
    · subst hb; exact n2
    · rw [upd_ne hb] at e'; exact k.ga b u e'
  · have e' : upd g.G p o b = some u := e
    by_cases hb : b = p
    · subst hb; exact .inr n3
    · rw [upd_ne hb] at e'; exact k.g0 b u e'
end

/-- what is seen, without one thing -/
def Gh.hide (g : Gh) (p : Addr) : Gh := ⟨g.F, fun b => if b = p then none else g.G b, g.A⟩
section
variable {S : Js J} {B : Bs} {g g' : Gh} {H : Hp} {j : J} {p : Addr}
theorem hide_sub {g : Gh} {p : Addr} : Same (g.hide p).G g.G := fun b o e => by
  have e' : (if b = p then none else g.G b) = some o := e
  by_cases hb : b = p
  · rw [if_pos hb] at e'; cases e'
  · rw [if_neg hb] at e'; exact e'
theorem OkB.hide (k : OkB S B g H j) (n : g.F p = none) : OkB S B (g.hide p) H j :=
  ⟨fun b o e => by
    show (if b = p then none else g.G b) = some o
    rw [if_neg (ne_of_none e n)]
    exact k.fg b o e, hide_sub.trans k.gh, fun b o e => k.ga b o (hide_sub b o e), k.jr, k.f0, fun b o e => k.g0 b o (hide_sub b o e), k.a0, k.h0, k.h1, k.sm⟩
theorem Le.hide {o : HO} (l : Le (g.see p o) g') (n : g.G p = none) : Le g (g'.hide p) :=
  ⟨l.f, fun b u e => by
    have hb : b ≠ p := ne_of_none e n
    show (if b = p then none else g'.G b) = some u
    rw [if_neg hb]
    refine l.g b u ?_
    show upd g.G p o b = some u
    rw [upd_ne hb]; exact e, fun b u e => by
    rcases l.n b u e with h | h
    · exact .inl h
    · right
      have h' : upd g.G p o b = none := h
      by_cases hb : b = p
      · subst hb; rw [upd_same] at h'; cases h'
      · rw [upd_ne hb] at h'; exact h'⟩
end

def compW (wm : Sd) (γ : Gv) (ft : Tv J) (fe : Ev J) : List D → List D → J → (List D → J → Prop) → Prop
  | [], acc, j, P => P acc j
  | d :: ds, acc, j, P => ∃ m2, γ d wm = some m2 ∧ ft m2 j (fun b j1 => if b = true then fe m2 j1 (fun y j2 => compW wm γ ft fe ds (acc ++ [y]) j2 P) xNo else compW wm γ ft fe ds acc j1 P) xNo
def eComp (vs : List Nat) (fi : Iv J) (γ : Gv) (ft : Tv J) (fe : Ev J) (m : Sd) (j : J) (P : D → J → Prop) (E : XP J) : Prop :=
  fi m j (fun ds j1 => ds.length ≤ LINE ∧ compW (wipeD m vs) γ ft fe ds [] j1 (fun ys j2 => P (.lst ys) j2)) E
theorem compW_mo {wm : Sd} {γ : Gv} {ft : Tv J} {fe : Ev J} [ht : MoT ft] [he : MoE fe] : ∀ {ds acc : List D} {j : J} {P P' : List D → J → Prop}, compW wm γ ft fe ds acc j P → (∀ ys j', P ys j' → P' ys j') → compW wm γ ft fe ds acc j P'
  | [], _, _, _, _, h, q => q _ _ h
  | _ :: _, _, _, _, _, ⟨m2, e, h⟩, q => ⟨m2, e, ht.mo h (fun _ _ p => ite_mono p (fun p => he.mo p (fun _ _ p => compW_mo p q) fun _ _ _ x => x) fun p => compW_mo p q) fun _ _ _ x => x⟩
instance {vs : List Nat} {fi : Iv J} {γ : Gv} {ft : Tv J} {fe : Ev J} [hi : MoA fi] [ht : MoT ft] [he : MoE fe] : MoE (eComp vs fi γ ft fe) := ⟨fun h q x => hi.mo h (fun _ _ ⟨l, p⟩ => ⟨l, compW_mo p fun _ _ p => q _ _ p⟩) x⟩
section
variable {S : Js J} {B : Bs} {M : Nat → Bool} {W : WX} {X : Cx} {elt tg iter : Expr} {ifs : List Expr} {scope : Scope} {own : List (Str × Nat)} {pos : Pos} {fi : Iv J} {γ : Gv} {ft : Tv J} {fe : Ev J} {ks : List Nat} {c w : Bool}
theorem ts_nil {X : Cx} : PTs X [] (rdT S B M W tYesD) := ⟨fun pins s σ H Q I ⟨g, m, j, P, E, ok, hf, q, _⟩ => pts_nil.run pins s σ H Q I (q _ _ g H hf (Le.refl g) ok)⟩
theorem lc_rd {R : St} {H : Hp} {Q : VK} (hks : ∀ k ∈ ks, k ∈ own.map (·.2)) (h : rdE S B M W .fresh (eComp (own.map (·.2)) fi γ ft fe) R H Q) :
    tLc (rdI S B M W c w fi) (rdG S B M w ks γ) (rdT S B M W0 ft) (rdE S B M W0 .clean fe) (own.map (·.2)) R H Q := by
  obtain ⟨g, m, j, P, E, ok, hf, q, xo⟩ := h
  refine ⟨g, m, j, _, E, ok, hf, fun ds j1 g1 H1 Jt hh l1 ok1 wk => fun Dd nD => ?_, xo⟩
  obtain ⟨hl, h2⟩ := hh
  obtain ⟨n1, n2, n3, n4⟩ := ok1.b.hn nD
  refine lc_it wk (fun i Hh => ∃ (gi : Gh) (ji : J) (accD : List D) (accV : List V), Le g1 gi ∧ Ok S B gi M (wipe R (own.map (·.2))) Hh (wipeD m (own.map (·.2))) ji ∧ Hh Dd = some (.lst accV) ∧ gi.G Dd = none ∧ ¬ gi.A Dd ∧
    RpL S gi.F accD accV ∧ compW (wipeD m (own.map (·.2))) γ ft fe (ds.drop i) accD ji (fun ys j2 => P (.lst ys) j2) ∧ accD.length ≤ i) ?_ ?_ ?_ ?_
  · exact ⟨g1, j1, [], [], Le.refl _, ⟨ok1.b.lay _ nD, ok1.s.wipe _⟩, upd_same, n2, n3, .nil, by rw [List.drop_zero]; exact h2, Nat.le_refl _⟩
  · rintro i Hh hi ⟨gi, ji, accD, accV, li, oki, hD, hDG, hDA, ra, hc, ha⟩
    exact (hp_le li c).trans (oki.b.sub c)
  · rintro i x Hh Hh' hi ⟨gi, ji, accD, accV, li, oki, hD, hDG, hDA, ra, hc, ha⟩ ⟨dd, hdd, y⟩
    have hdrop : ds.drop i = dd :: ds.drop (i + 1) := by
      obtain ⟨hlt, he⟩ := List.getElem?_eq_some_iff.mp hdd
      rw [List.drop_eq_getElem_cons hlt, he]
    rw [hdrop] at hc
    obtain ⟨m2, hm2, hc⟩ := hc
    -- the new list is seen while the item is made
    have la : Le gi (gi.see Dd (.lst accV)) := Le.see hDG
    have oka : Ok S B (gi.see Dd (.lst accV)) M (wipe R (own.map (·.2))) Hh (wipeD m (own.map (·.2))) ji := ⟨oki.b.adopt hD hDG hDA n4, oki.s.le la⟩
    have item : ∃ g2, Le (gi.see Dd (.lst accV)) g2 ∧ Ok S B g2 M (wipe R (own.map (·.2))) Hh' (wipeD m (own.map (·.2))) ji ∧ RpX S g2.F w dd x := by
      rcases y with ⟨rfl, rp⟩ | ⟨hw, T, vs, es, rfl, hT, rfl, rfl, rl⟩ | ⟨T, o, vs, es, rfl, hT, hdo, rfl, rfl, rl⟩
      · exact ⟨_, Le.refl _, oka, .inl (rp.mono li.f)⟩
      · obtain ⟨t1, t2, t3, t4⟩ := oka.b.hn hT
        exact ⟨_, Le.frz oka.b.fg t2, ⟨oka.b.frz _ hT, oka.s.le (Le.frz oka.b.fg t2)⟩, .inr ⟨hw, T, vs, es, rfl, upd_same, rfl, (rl.mono li.f).mono (same_new t1)⟩⟩
      · obtain ⟨t1, t2, t3, t4⟩ := oka.b.hn hT
        exact ⟨_, Le.frz oka.b.fg t2, ⟨oka.b.frz _ hT, oka.s.le (Le.frz oka.b.fg t2)⟩, .inl (.tup (.inl ⟨o, upd_same, hdo⟩) ((rl.mono li.f).mono (same_new t1)))⟩
    obtain ⟨g2, l2, ok2, rp2⟩ := item
    -- behind the turn
    have back : ∀ (g5 : Gh) (H5 : Hp) (j5 : J) (o : List V), Le g2 g5 → OkB S B g5 H5 j5 → H5 Dd = some (.lst accV) ∧ Le gi (g5.hide Dd) ∧ OkB S B (g5.hide Dd) (upd H5 Dd (.lst o)) j5 ∧ (g5.hide Dd).G Dd = none ∧ ¬ (g5.hide Dd).A Dd := fun g5 H5 j5 o l5 ok5 => by
      have lz := l2.trans l5
      have hG5 : g5.G Dd = some (.lst accV) := lz.g _ _ upd_same
      have hF5 : g5.F Dd = none := by
        cases z : g5.F Dd with
        | none => rfl
        | some u =>
          rcases lz.n Dd u z with z | z
          · have z' : gi.F Dd = some u := z
            rw [oki.b.fg.free hDG] at z'; cases z'
          · have z' : upd gi.G Dd (.lst accV) Dd = none := z
            rw [upd_same] at z'; cases z'
      have hA5 : ¬ g5.A Dd := ok5.ga _ _ hG5
      refine ⟨ok5.gh _ _ hG5, lz.hide hDG, ?_, if_pos rfl, hA5⟩
      exact (ok5.hide hF5).out (ok5.gh _ _ hG5) (by intro x y z; cases z) (if_pos rfl) hA5 n4
    refine ⟨g2, _, ji, dd, m2, ok2, rp2, hm2, fun r3 ok3 len3 k3 => ⟨?_, ?_⟩⟩
    · rw [wipe_congr (r := wipe R (own.map (·.2))) len3 fun k hk => k3 k fun z => hk (hks k z), wipe_wipe]
    · refine ⟨g2, m2, ji, _, xNo, ok3, hc, fun b j3 g4 H4 p l4 ok4 => ite_mono p (fun p => ?_) (fun p => ?_), XOut.no⟩
      · refine ⟨g4, m2, _, _, xNo, ok4, p, fun y j4 g5 v5 H5 p l5 ok5 w5 => ?_, XOut.no⟩
        obtain ⟨b1, b2, b3, b4, b5⟩ := back g5 H5 j4 (accV ++ [v5]) (l4.trans l5) ok5.b
        refine ⟨accV, b1, ?_, g5.hide Dd, j4, accD ++ [y], accV ++ [v5], li.trans b2, ⟨b3, oki.s.le b2⟩, upd_same, b4, b5, (ra.mono b2.f).append (.cons w5 .nil), p, ?_⟩
        · rw [← ra.length]
          have := line_ok
          omega
        · rw [List.length_append]; simp only [List.length_cons, List.length_nil]; omega
      · obtain ⟨b1, b2, b3, b4, b5⟩ := back g4 H4 j3 accV l4 ok4.b
        have eH : upd H4 Dd (.lst accV) = H4 := by
          funext b
          by_cases hb : b = Dd
          · subst hb; rw [upd_same, b1]
          · rw [upd_ne hb]
        rw [eH] at b3
        exact ⟨g4.hide Dd, j3, accD, accV, li.trans b2, ⟨b3, oki.s.le b2⟩, b1, b4, b5, ra.mono b2.f, p, by omega⟩
  · rintro Hh ⟨gi, ji, accD, accV, li, oki, hD, hDG, hDA, ra, hc, ha⟩
    rw [List.drop_length] at hc
    have hc : P (.lst accD) ji := hc
    have l2 : Le gi (gi.see Dd (.lst accV)) := Le.see hDG
    refine q _ _ (gi.see Dd (.lst accV)) _ Hh hc ((l1.trans li).trans l2) ⟨oki.b.adopt hD hDG hDA n4, ok1.s.le (li.trans l2)⟩ ⟨Dd, rfl, l1.g.free n2, ?_, .inl ⟨accD, accV, rfl, upd_same, ra⟩⟩
    exact oki.b.fg.free hDG
theorem e_comp (hc : X.calm = true) (hN : X.N.Nodup) (hi : PI X tg iter (rdI S B M W c w fi)) (ok : BlkOk X.N X.env.scope scope own) (hks : ∀ k ∈ ks, k ∈ own.map (·.2))
    (hg : ∀ (s : Shared) (H : Hp) (C : Addr) (cl : List (Str × Addr)) (fp : List Addr), PG (X.blk s H scope (compEnvC scope cl C X.env) fp) tg (rdG S B M w ks γ)) (ht : ∀ (s : Shared) (H : Hp) (C : Addr) (cl : List (Str × Addr)) (fp : List Addr), PTs (X.blk s H scope (compEnvC scope cl C X.env) fp) ifs (rdT S B M W0 ft))
    (he : ∀ (s : Shared) (H : Hp) (C : Addr) (cl : List (Str × Addr)) (fp : List Addr), PE (X.blk s H scope (compEnvC scope cl C X.env) fp) elt (rdE S B M W0 .clean fe)) (hs : ∀ x, foldedSetIterable iter X.env x = pure x) :
    PE X (.ListComp elt [⟨tg, iter, ifs, 0⟩] scope pos) (rdE S B M W .fresh (eComp (own.map (·.2)) fi γ ft fe)) :=
  PE.imp (pe_lc hc hN hi ok hg ht he hs) fun _ _ _ h => lc_rd hks h
end
end Mp

/-! Mp7: defs by data, their calls; statements. -/
namespace Mp
open PySem PySem.Spec L2
open PyProof.Rows hiding St
variable {J : Type}

/-! ### a def's promise, where no repr is under way -/
structure FnG (P : Program) (w : World) (K : PySem.W.Frag) (mg : Str → Option Value) (base : Heap) (CX : CXT) (k : Nat) (f : Addr) (fd : FuncData) (ps : List Str) (sp : Sp) : Prop where
  len : ∀ vs H Q E, sp vs H Q E → vs.length = ps.length
  run : ∀ (A : Around) (outer : List Env) (s : Shared) (H : Hp) (args : Args) (us : List Value) (vs : List V) (Q : VK) (E : XK), Room k A → A.guards = some [] → Env0 P w K mg base A outer s H → BindsTo s fd args (ps.zip us) → Vals vs us → sp vs H Q E →
    codeAny (model P w) A (.call (.ref f) args) (CR CX outer P w H s Q E) s
theorem FnG.mono {P : Program} {w : World} {K : PySem.W.Frag} {mg : Str → Option Value} {base : Heap} {CX : CXT} {j k : Nat} {f : Addr} {fd : FuncData} {ps : List Str} {sp : Sp} (F : FnG P w K mg base CX j f fd ps sp) (h : j ≤ k) :
    FnG P w K mg base CX k f fd ps sp := ⟨F.len, fun A outer s H args us vs Q E hr => F.run A outer s H args us vs Q E (hr.mono h)⟩
theorem FnG.imp {P : Program} {w : World} {K : PySem.W.Frag} {mg : Str → Option Value} {base : Heap} {CX : CXT} {k : Nat} {f : Addr} {fd : FuncData} {ps : List Str} {sp sp' : Sp} (F : FnG P w K mg base CX k f fd ps sp)
    (h : ∀ vs H Q E, sp' vs H Q E → sp vs H Q E) : FnG P w K mg base CX k f fd ps sp' :=
  ⟨fun vs H Q E q => F.len vs H Q E (h _ _ _ _ q), fun A outer s H args us vs Q E hr hg he hb hv hs => F.run A outer s H args us vs Q E hr hg he hb hv (h _ _ _ _ hs)⟩
theorem fnG_of {CX : CXT} {P : Program} {w : World} {K : PySem.W.Frag} {mg : Str → Option Value} {base : Heap} {k : Nat} {f : Addr} {name qual : Str} {params : Arguments} {body : List Stmt} {scope : Scope} {dV kV doc pm cdv ct oc : Value} {an od : Option Addr}
    {osl : Array (Option Value)} {N ps : List Str} {sp : Sp} (lk : K.lookup f = some ⟨oc, od, .func (PySem.W.fnOf name qual params body scope dV kV doc pm an cdv ct), osl⟩) (hcd : PySem.W.codeIn K cdv qual = true) (S : FnScope N ps scope)
    (len : ∀ vs H Q E, sp vs H Q E → vs.length = ps.length)
    (hbody : ∀ (A : Around) (outer : List Env) (s : Shared) (H : Hp) (vs : List V) (Q : VK) (E : XK), Room k (A.deeper (envOfC qual scope s.heap.objs.size f cdv)) → (A.deeper (envOfC qual scope s.heap.objs.size f cdv)).guards = some [] → sp vs H Q E →
      ∃ t, PSs (cxOf CX P w K mg base N qual scope f cdv A outer s H E) body t ∧ t { nx := fun _ H' => Q .non H', rt := Q } (start N vs) H) :
    FnG P w K mg base CX (k + 1) f (PySem.W.fnOf name qual params body scope dV kV doc pm an cdv ct) ps sp := by
  refine ⟨len, fun A outer s H args us vs Q E hr hgd e0 hb r hsp => ?_⟩
  have hl := len _ _ _ _ hsp
  have KX : K.In s.heap := e0.mod.kin.keeps fun b o e => (e0.bs b o e).1
  have lim : s.heap.NoLimit := e0.mod.nolimit.keeps fun b o e => (e0.bs b o e).1
  have hkind : ∀ y ∈ ps.zip us, scope.names.lookup y.1 = some .local ∨ (scope.names.lookup y.1 = some .cell ∧ ((cellsFrom (s.heap.objs.size + 1) scope.names []).lookup y.1).isSome = true) := fun ⟨n, v⟩ hy => by
    rcases S.par n (List.of_mem_zip hy).1 with q | q
    · exact .inl q
    · exact .inr ⟨q, PySem.W.cellsFrom_some _ _ _ (.inl q)⟩
  refine codeAny_call_function hr.depth (KX _ _ lk) rfl S.co S.gen rfl (PySem.W.codeRec_of KX hcd) (hb _ _ _ _ ?_)
  refine wpAny_newFunctionEnv_cells S.kind hkind fun env he s1 x => ?_
  subst he
  refine ⟨lim.keeps x.toInCall.keep, codeAny_func ?_⟩
  obtain ⟨t, ht, hq⟩ := hbody A outer s H vs Q E (hr.deeper _) hgd hsp
  have I : Inv (cxOf CX P w K mg base N qual scope f cdv A outer s H E) [] (start N vs) H s1 := inv_start S hr.hd e0 hl r x
  refine wpAny_mono (ht.run [] s1 (start N vs) H _ I hq) (fun fl s' hs => ?_) fun e s' hs => hs
  have fin : ∀ {σ' : St} {H' : Hp} {v : V} {u : Value}, Inv (cxOf CX P w K mg base N qual scope f cdv A outer s H E) [] σ' H' s' → RelV v u → Q v H' → CE outer P w H s Q u s' :=
    fun {σ' H' v u} J rv q => ⟨v, H', J.os, J.bare, J.base, J.hok, rv, q⟩
  cases fl with
  | ret u =>
    obtain ⟨v, σ', H', J, rv, q⟩ := hs
    exact fin J rv q
  | next =>
    obtain ⟨σ', H', J, q⟩ := hs
    exact fin (v := V.non) (u := Value.none) J rfl q
  | brk =>
    obtain ⟨_, _, _, q⟩ := hs
    exact False.elim q
  | cont =>
    obtain ⟨_, _, _, q⟩ := hs
    exact False.elim q
section
variable {X : Cx} {CX : CXT} {k : Nat} {f C : Addr} {fd : FuncData} {ps : List Str} {sp : Sp} {dvs : List V} {ds : List Value} {E : XK} {x m : Str} {p pos apos : Pos} {e o : Expr} {es : List Expr} {ta : TE} {t : TA}
theorem run_fnG {pins : List (Addr × Obj)} {σ : St} {H : Hp} {s : Shared} {Q : VK} {us : List Value} {vs : List V} (F : FnG X.prog X.w X.K X.mg X.base CX k f fd ps sp) (hr : Room k X.A) (hgd : X.A.guards = some []) (hb : Binds X.K fd ps ds) (hd : Vals dvs ds) (hx : Passes CX X E)
    (I : Inv X pins σ H s) (r : Vals vs us) (h : sp (vs ++ dvs) H Q E) : wpAny (model X.prog X.w) X.A (call (.ref f) us) (EP X pins σ Q) X.xe s := by
  have r2 : Vals (vs ++ dvs) (us ++ ds) := r.append hd
  have hl : (us ++ ds).length = ps.length := by rw [← r2.length]; exact F.len _ _ _ _ h
  refine wpAny_call (codeAny_mono (F.run X.A X.stack s H ⟨us, []⟩ (us ++ ds) (vs ++ dvs) Q E hr hgd I.env0 (hb s us I.kIn hl) r2 h) fun r s' hq => ?_)
  cases r with
  | error e => exact hx pins σ H s e s' I hq
  | ok fl =>
    cases fl with
    | ret u => exact I.after hq
    | next => exact False.elim hq
    | brk => exact False.elim hq
    | cont => exact False.elim hq
theorem pe_callG (F : FnG X.prog X.w X.K X.mg X.base CX k f fd ps sp) (hr : Room k X.A) (hgd : X.A.guards = some []) (hg : Gl X x) (hm : X.mg x = some (.ref f)) (hk : PySem.W.keepIn X.K (.ref f) = true) (hb : Binds X.K fd ps ds) (hd : Vals dvs ds) (hx : Passes CX X E)
    (ha : PA X (e :: es) t) (hdb : (x == ("__debug__" : Str)) = false) (he : starEach (e :: es) X.env = (false, eval e X.env) :: starEach es X.env) (hpl : (backTo pos (starEach es X.env)).any (·.1) = false) :
    PE X (.Call (.Name x p) (e :: es) [] pos) (tCall sp dvs E t) := by
  refine ⟨fun pins s σ H Q I h => ?_⟩
  refine wpAny_Call_Name_kw (ld_glob I hg hm ?_ hdb)
  refine PySem.W.callWith_K (h₀ := X.base) I.ok.mod.kin hk (thn (ha.run pos pins s σ H _ I h) fun us s1 ⟨vs, H1, I1, r, q⟩ => ⟨I1.kIn, ?_⟩) he hpl
  exact run_fnG F hr hgd hb hd hx I1 r q
theorem pe_callG0 (F : FnG X.prog X.w X.K X.mg X.base CX k f fd ps sp) (hr : Room k X.A) (hgd : X.A.guards = some []) (hg : Gl X x) (hm : X.mg x = some (.ref f)) (hk : PySem.W.keepIn X.K (.ref f) = true) (hb : Binds X.K fd ps ds) (hd : Vals dvs ds) (hx : Passes CX X E)
    (hdb : (x == ("__debug__" : Str)) = false) : PE X (.Call (.Name x p) [] [] pos) (tCall sp dvs E tNil) := by
  refine ⟨fun pins s σ H Q I h => ?_⟩
  refine wpAny_Call_Name_kw (ld_glob I hg hm ?_ hdb)
  exact PySem.W.callWith_K0 I.kIn hk (run_fnG (us := []) F hr hgd hb hd hx I .nil h)
end

/-! ### a call whose exceptions the slots see -/
section
variable {X : Cx} {k : Nat} {f : Addr} {fd : FuncData} {ps : List Str} {sp : Sp} {E : St → XK} {x : Str} {p pos : Pos} {e : Expr} {es : List Expr} {t : TA} {CX : CXT}
theorem run_fnGS {pins : List (Addr × Obj)} {σ : St} {H : Hp} {s : Shared} {Q : VK} {us : List Value} {vs : List V} (F : FnG X.prog X.w X.K X.mg X.base CX k f fd ps sp) (hr : Room k X.A) (hgd : X.A.guards = some []) (hb : Binds X.K fd ps []) (hx : PassesAt CX X σ (E σ))
    (I : Inv X pins σ H s) (r : Vals vs us) (h : sp vs H Q (E σ)) : wpAny (model X.prog X.w) X.A (call (.ref f) us) (EP X pins σ Q) X.xe s := by
  have hl : us.length = ps.length := by rw [← r.length]; exact F.len _ _ _ _ h
  have b := hb s us I.kIn (by rw [List.append_nil]; exact hl)
  rw [List.append_nil] at b
  refine wpAny_call (codeAny_mono (F.run X.A X.stack s H ⟨us, []⟩ us vs Q (E σ) hr hgd I.env0 b r h) fun r s' hq => ?_)
  cases r with
  | error e => exact hx pins H s e s' I hq
  | ok fl =>
    cases fl with
    | ret u => exact I.after hq
    | next => exact False.elim hq
    | brk => exact False.elim hq
    | cont => exact False.elim hq
theorem pe_callGS (F : FnG X.prog X.w X.K X.mg X.base CX k f fd ps sp) (hr : Room k X.A) (hgd : X.A.guards = some []) (hg : Gl X x) (hm : X.mg x = some (.ref f)) (hk : PySem.W.keepIn X.K (.ref f) = true) (hb : Binds X.K fd ps []) (hx : ∀ σ, PassesAt CX X σ (E σ))
    (ha : PA X (e :: es) t) (hdb : (x == ("__debug__" : Str)) = false) (he : starEach (e :: es) X.env = (false, eval e X.env) :: starEach es X.env) (hpl : (backTo pos (starEach es X.env)).any (·.1) = false) :
    PE X (.Call (.Name x p) (e :: es) [] pos) (tCallS sp E t) := by
  refine ⟨fun pins s σ H Q I h => ?_⟩
  refine wpAny_Call_Name_kw (ld_glob I hg hm ?_ hdb)
  refine PySem.W.callWith_K (h₀ := X.base) I.ok.mod.kin hk (thn (ha.run pos pins s σ H _ I h) fun us s1 ⟨vs, H1, I1, r, q⟩ => ⟨I1.kIn, ?_⟩) he hpl
  exact run_fnGS F hr hgd hb (hx σ) I1 r q
theorem pe_callGS0 (F : FnG X.prog X.w X.K X.mg X.base CX k f fd ps sp) (hr : Room k X.A) (hgd : X.A.guards = some []) (hg : Gl X x) (hm : X.mg x = some (.ref f)) (hk : PySem.W.keepIn X.K (.ref f) = true) (hb : Binds X.K fd ps []) (hx : ∀ σ, PassesAt CX X σ (E σ))
    (hdb : (x == ("__debug__" : Str)) = false) : PE X (.Call (.Name x p) [] [] pos) (tCallS sp E tNil) := by
  refine ⟨fun pins s σ H Q I h => ?_⟩
  refine wpAny_Call_Name_kw (ld_glob I hg hm ?_ hdb)
  exact PySem.W.callWith_K0 I.kIn hk (run_fnGS (us := []) F hr hgd hb (hx σ) I .nil h)
end

/-! ### a def by what it does on data -/
abbrev Fv (J : Type) := List D → J → (D → J → Prop) → (Ex → J → Prop) → Prop
class MoF (f : Fv J) : Prop where
  mo : ∀ {ds : List D} {j : J} {P P' : D → J → Prop} {E E' : Ex → J → Prop}, f ds j P E → (∀ d j', P d j' → P' d j') → (∀ e j', E e j' → E' e j') → f ds j P' E'
structure FPost (S : Js J) (F : Hp) (A : Addr → Prop) (H : Hp) (F' : Hp) (A' : Addr → Prop) (H' : Hp) (j' : J) : Prop where
  sub : Same F F'
  fh : Same F' H'
  fa : ∀ b o, F' b = some o → ¬ A' b
  jr : S.rep j' F' A' H'
  keep : ∀ b o, H b = some o → ¬ A b → H' b = some o
  ff : ∀ b o, F' b = some o → F b = some o ∨ H b = none
  af : ∀ b, A' b → A b ∨ H b = none
  dm : ∀ b, H' b = none → H b = none
  sm : ∃ o u, H' sysModules = some (.frz o u)
def spF (S : Js J) (n : Nat) (φ : Fv J) : Sp := fun vs H Q E => ∃ F A j ds P Ep, Same F H ∧ (∀ b o, F b = some o → ¬ A b) ∧ S.rep j F A H ∧ (∃ o u, H sysModules = some (.frz o u)) ∧ RpL S F ds vs ∧ ds.length = n ∧ φ ds j P Ep ∧
  (∀ d j' F' A' H' v, P d j' → FPost S F A H F' A' H' j' → Rp S F' d v → Q v H') ∧ (∀ e j' F' A' H' cls dx, Ep e j' → FPost S F A H F' A' H' j' → ExR S F' e cls dx → E cls dx H')
def un2 (F G : Hp) : Hp := fun b => match F b with | some o => some o | none => G b
theorem un2_l {F G : Hp} : Same F (un2 F G) := fun b o e => by unfold un2; rw [e]
theorem un2_cases {F G : Hp} {b : Addr} {o : HO} (h : un2 F G b = some o) : F b = some o ∨ (F b = none ∧ G b = some o) := by
  unfold un2 at h
  split at h
  · cases h; exact .inl (by assumption)
  · exact .inr ⟨by assumption, h⟩
section
variable {S : Js J} {B : Bs} {g : Gh} {H H' F' : Hp} {A' : Addr → Prop} {j j' : J}
theorem post_base (ok : OkB S B g H j) {F : Hp} (p : FPost S F g.A H F' A' H' j') : (∀ b o, g.G b = some o → H' b = some o ∧ ¬ A' b) ∧ (∀ b, A' b → B.A0 b ∨ B.H0 b = none) ∧ (∀ b o, B.H0 b = some o → ¬ B.A0 b → H' b = some o) ∧ (∀ b, H' b = none → B.H0 b = none) := by
  refine ⟨fun b o e => ⟨p.keep b o (ok.gh b o e) (ok.ga b o e), fun z => ?_⟩, fun b z => ?_, fun b o e n => ?_, fun b e => ok.h1 b (p.dm b e)⟩
  · rcases p.af b z with z | z
    · exact ok.ga b o e z
    · rw [ok.gh b o e] at z; cases z
  · rcases p.af b z with z | z
    · exact ok.a0 b z
    · exact .inr (ok.h1 b z)
  · refine p.keep b o (ok.h0 b o e n) fun z => ?_
    rcases ok.a0 b z with z | z
    · exact n z
    · rw [e] at z; cases z
/-- behind a call with frozen arguments -/
theorem post_clean (ok : OkB S B g H j) (p : FPost S g.F g.A H F' A' H' j') : Le g ⟨F', un2 F' g.G, A'⟩ ∧ OkB S B ⟨F', un2 F' g.G, A'⟩ H' j' := by
  obtain ⟨b1, b2, b3, b4⟩ := post_base ok p
  have gg : Same g.G (un2 F' g.G) := fun b o e => by
    unfold un2
    split
    · rename_i o' h
      rcases p.ff b o' h with z | z
      · rw [ok.fg b o' z] at e; exact e
      · rw [ok.gh b o e] at z; cases z
    · exact e
  refine ⟨⟨p.sub, gg, fun b o e => ?_⟩, ⟨un2_l, fun b o e => ?_, fun b o e => ?_, p.jr, ok.f0.trans p.sub, fun b o e => ?_, b2, b3, b4, p.sm⟩⟩
  · rcases p.ff b o e with z | z
    · exact .inl z
    · exact .inr (ok.gh.free z)
  · rcases un2_cases e with e | ⟨_, e⟩
    · exact p.fh b o e
    · exact (b1 b o e).1
  · rcases un2_cases e with e | ⟨_, e⟩
    · exact p.fa b o e
    · exact (b1 b o e).2
  · rcases un2_cases e with e | ⟨_, e⟩
    · rcases p.ff b o e with z | z
      · exact ok.g0 b o (ok.fg b o z)
      · exact .inr (ok.h1 b z)
    · exact ok.g0 b o e
/-- behind a call with seen arguments -/
theorem post_mix [pj : PureJ S] (ok : OkB S B g H j) (p : FPost S g.G g.A H F' A' H' j') : Le g ⟨g.F, F', A'⟩ ∧ OkB S B ⟨g.F, F', A'⟩ H' j' := by
  obtain ⟨b1, b2, b3, b4⟩ := post_base ok p
  refine ⟨⟨Same.refl _, p.sub, fun b o e => .inl e⟩, ⟨ok.fg.trans p.sub, p.fh, p.fa, pj.pu p.jr, ok.f0, fun b o e => ?_, b2, b3, b4, p.sm⟩⟩
  rcases p.ff b o e with z | z
  · exact ok.g0 b o z
  · exact .inr (ok.h1 b z)
end
/-- a call with frozen arguments: what is raised goes on -/
def eCall (φ : Fv J) (fa : Av J) (m : Sd) (j : J) (P : D → J → Prop) (E : XP J) : Prop := fa m j (fun xs j1 => φ xs j1 P (fun e j' => E e m j')) E
/-- with arguments that are seen: nothing is raised -/
def eCallM (φ : Fv J) (fa : Av J) (m : Sd) (j : J) (P : D → J → Prop) (E : XP J) : Prop := fa m j (fun xs j1 => φ xs j1 P (fun _ _ => False)) E
instance {φ : Fv J} {fa : Av J} [hf : MoF φ] [ha : MoA fa] : MoE (eCall φ fa) := ⟨fun h q x => ha.mo h (fun _ _ p => hf.mo p q fun _ _ => x _ _ _) x⟩
instance {φ : Fv J} {fa : Av J} [hf : MoF φ] [ha : MoA fa] : MoE (eCallM φ fa) := ⟨fun h q x => ha.mo h (fun _ _ p => hf.mo p q fun _ _ z => z) x⟩
section
variable {S : Js J} {B : Bs} {M : Nat → Bool} {W : WX} {X : Cx} {e a b c : Expr} {es : List Expr} {pos p : Pos} {f fa fb fc : Ev J} {fr : Av J} {x : Str} {φ : Fv J} {k n : Nat} {fn : Addr} {fd : FuncData} {ps : List Str}
theorem tCall_rd (hφ : ∀ ds j P E, φ ds j P E → ds.length = n) {R : St} {H : Hp} {Q : VK} (h : rdE S B M W .clean (eCall φ fr) R H Q) : tCallS (spF S n φ) (WE W) (rdA S B M W true fr) R H Q := by
  obtain ⟨g, m, j, P, E, ok, hf, q, xo⟩ := h
  refine ⟨g, m, j, _, E, ok, hf, fun xs j1 g1 vs H1 p1 l1 ok1 w1 => ?_, xo⟩
  refine ⟨g1.F, g1.A, j1, xs, P, _, ok1.b.fg.trans ok1.b.gh, fun b o e => ok1.b.ga b o (ok1.b.fg b o e), ok1.b.jr, ok1.b.sm, w1, hφ _ _ _ _ p1, p1, fun d j' F' A' H' v pd pp rv => ?_, fun e j' F' A' H' cls dx pe pp rv => ?_⟩
  · obtain ⟨l2, ok2⟩ := post_clean ok1.b pp
    exact q d j' _ v H' pd (l1.trans l2) ⟨ok2, ok1.s.le l2⟩ rv
  · obtain ⟨l2, ok2⟩ := post_clean ok1.b pp
    exact xo e m j' _ R H' cls dx pe (l1.trans l2).f ⟨ok2, ok1.s.le l2⟩ rv
theorem tCallM_rd [PureJ S] (hφ : ∀ ds j P E, φ ds j P E → ds.length = n) {R : St} {H : Hp} {Q : VK} (h : rdE S B M W .mix (eCallM φ fr) R H Q) : tCallS (spF S n φ) (WE W) (rdA S B M W false fr) R H Q := by
  obtain ⟨g, m, j, P, E, ok, hf, q, xo⟩ := h
  refine ⟨g, m, j, _, E, ok, hf, fun xs j1 g1 vs H1 p1 l1 ok1 w1 => ?_, xo⟩
  refine ⟨g1.G, g1.A, j1, xs, P, _, ok1.b.gh, ok1.b.ga, S.frame ok1.b.jr ok1.b.fg fun _ _ => rfl, ok1.b.sm, w1, hφ _ _ _ _ p1, p1, fun d j' F' A' H' v pd pp rv => ?_, fun e j' F' A' H' cls dx pe pp rv => pe.elim⟩
  obtain ⟨l2, ok2⟩ := post_mix ok1.b pp
  exact q d j' _ v H' pd (l1.trans l2) ⟨ok2, ok1.s.le l2⟩ rv
theorem e_call (F : FnG X.prog X.w X.K X.mg X.base (L2.CX X.prog X.w) k fn fd ps (spF S n φ)) (tk : Takes X W) (hr : Room k X.A) (hgd : X.A.guards = some []) (hg : Gl X x) (hm : X.mg x = some (.ref fn)) (hk : PySem.W.keepIn X.K (.ref fn) = true) (hb : Binds X.K fd ps [])
    (hφ : ∀ ds j P E, φ ds j P E → ds.length = n) (ha : PA X (e :: es) (rdA S B M W true fr)) (hdb : (x == ("__debug__" : Str)) = false) (he : starEach (e :: es) X.env = (false, eval e X.env) :: starEach es X.env) (hpl : (backTo pos (starEach es X.env)).any (·.1) = false) :
    PE X (.Call (.Name x p) (e :: es) [] pos) (rdE S B M W .clean (eCall φ fr)) := PE.imp (pe_callGS F hr hgd hg hm hk hb (passAt tk) ha hdb he hpl) fun _ _ _ h => tCall_rd hφ h
theorem e_callM [PureJ S] (F : FnG X.prog X.w X.K X.mg X.base (L2.CX X.prog X.w) k fn fd ps (spF S n φ)) (tk : Takes X W) (hr : Room k X.A) (hgd : X.A.guards = some []) (hg : Gl X x) (hm : X.mg x = some (.ref fn)) (hk : PySem.W.keepIn X.K (.ref fn) = true) (hb : Binds X.K fd ps [])
    (hφ : ∀ ds j P E, φ ds j P E → ds.length = n) (ha : PA X (e :: es) (rdA S B M W false fr)) (hdb : (x == ("__debug__" : Str)) = false) (he : starEach (e :: es) X.env = (false, eval e X.env) :: starEach es X.env) (hpl : (backTo pos (starEach es X.env)).any (·.1) = false) :
    PE X (.Call (.Name x p) (e :: es) [] pos) (rdE S B M W .mix (eCallM φ fr)) := PE.imp (pe_callGS F hr hgd hg hm hk hb (passAt tk) ha hdb he hpl) fun _ _ _ h => tCallM_rd hφ h
theorem e_call0 (F : FnG X.prog X.w X.K X.mg X.base (L2.CX X.prog X.w) k fn fd ps (spF S n φ)) (tk : Takes X W) (hr : Room k X.A) (hgd : X.A.guards = some []) (hg : Gl X x) (hm : X.mg x = some (.ref fn)) (hk : PySem.W.keepIn X.K (.ref fn) = true) (hb : Binds X.K fd ps [])
    (hφ : ∀ ds j P E, φ ds j P E → ds.length = n) (hdb : (x == ("__debug__" : Str)) = false) :
    PE X (.Call (.Name x p) [] [] pos) (rdE S B M W .clean (eCall φ aNil)) := PE.imp (pe_callGS0 F hr hgd hg hm hk hb (passAt tk) hdb) fun R H Q h => by
  have h2 := tCall_rd hφ h
  obtain ⟨g, m, j, P, E, ok, hf, q, xo⟩ := h2
  exact q _ _ g [] H hf (Le.refl g) ok .nil
end

/-! ### statements -/
inductive Fl | next | brk | cnt | ret (d : D)
abbrev Sv (J : Type) := Sd → J → (Fl → Sd → J → Prop) → XP J → Prop
class MoS (f : Sv J) : Prop where
  mo : ∀ {m : Sd} {j : J} {P P' : Fl → Sd → J → Prop} {E E' : XP J}, f m j P E → (∀ l m' j', P l m' j' → P' l m' j') → (∀ e m' j', E e m' j' → E' e m' j') → f m j P' E'
section
variable (S : Js J) (B : Bs) (M : Nat → Bool)
def EndS (g : Gh) (E : Ends) : Fl → Sd → J → Prop
  | .next, m', j' => ∀ g' r' H', Same g.F g'.F → Ok S B g' M r' H' m' j' → E.nx r' H'
  | .brk, m', j' => ∀ g' r' H', Same g.F g'.F → Ok S B g' M r' H' m' j' → E.bk r' H'
  | .cnt, m', j' => ∀ g' r' H', Same g.F g'.F → Ok S B g' M r' H' m' j' → E.ct r' H'
  | .ret d, _, j' => ∀ g' H' v, OkB S B g' H' j' → Rp S g'.G d v → E.rt v H'
def rdS (W : WX) (f : Sv J) : TS := fun En r H => ∃ g m j P E, Ok S B g M r H m j ∧ f m j P E ∧ (∀ fl m' j', P fl m' j' → EndS S B M g En fl m' j') ∧ XOut S B M W g E
end
/-! combinators -/
def sNil (m : Sd) (j : J) (P : Fl → Sd → J → Prop) (E : XP J) : Prop := P .next m j
/-- what follows a statement -/
def thenS (f2 : Sv J) (P : Fl → Sd → J → Prop) (E : XP J) : Fl → Sd → J → Prop
  | .next, m, j => f2 m j P E
  | .brk, m, j => P .brk m j
  | .cnt, m, j => P .cnt m j
  | .ret d, m, j => P (.ret d) m j
def sSeq (f1 f2 : Sv J) (m : Sd) (j : J) (P : Fl → Sd → J → Prop) (E : XP J) : Prop := f1 m j (thenS f2 P E) E
def sExpr (fe : Ev J) (m : Sd) (j : J) (P : Fl → Sd → J → Prop) (E : XP J) : Prop := fe m j (fun _ j1 => P .next m j1) E
def sBrk (m : Sd) (j : J) (P : Fl → Sd → J → Prop) (E : XP J) : Prop := P .brk m j
def sCnt (m : Sd) (j : J) (P : Fl → Sd → J → Prop) (E : XP J) : Prop := P .cnt m j
def sNever (m : Sd) (j : J) (P : Fl → Sd → J → Prop) (E : XP J) : Prop := False
def sRet (fe : Ev J) (m : Sd) (j : J) (P : Fl → Sd → J → Prop) (E : XP J) : Prop := fe m j (fun d j1 => P (.ret d) m j1) E
def sRetN (m : Sd) (j : J) (P : Fl → Sd → J → Prop) (E : XP J) : Prop := P (.ret .non) m j
def sIf (tc : Tv J) (f1 f2 : Sv J) (m : Sd) (j : J) (P : Fl → Sd → J → Prop) (E : XP J) : Prop := tc m j (fun b j1 => if b = true then f1 m j1 P E else f2 m j1 P E) E
def sSet (i : Nat) (fe : Ev J) (m : Sd) (j : J) (P : Fl → Sd → J → Prop) (E : XP J) : Prop := fe m j (fun d j1 => P .next (m.set i (some d)) j1) E
def sAsg (γ : Gv) (fe : Ev J) (m : Sd) (j : J) (P : Fl → Sd → J → Prop) (E : XP J) : Prop := fe m j (fun d j1 => ∃ m1, γ d m = some m1 ∧ P .next m1 j1) E
/-- x += e, x -= e (ints) -/
def sAug (φ : D → D → Option D) (i : Nat) (fe : Ev J) (m : Sd) (j : J) (P : Fl → Sd → J → Prop) (E : XP J) : Prop := ∃ x, m[i]? = some (some x) ∧ fe m j (fun y j1 => ∃ z, φ x y = some z ∧ P .next (m.set i (some z)) j1) E
def addI : D → D → Option D
  | .int i, .int k => some (.int (i + k))
  | _, _ => none
def subI : D → D → Option D
  | .int i, .int k => some (.int (i - k))
  | _, _ => none
/-- what follows a turn of a loop -/
def turnS (N : Sd → J → Prop) (P : Fl → Sd → J → Prop) : Fl → Sd → J → Prop
  | .next, m, j => N m j
  | .cnt, m, j => N m j
  | .brk, m, j => P .next m j
  | .ret d, m, j => P (.ret d) m j
def whW (tc : Tv J) (fb : Sv J) : Nat → Sd → J → (Fl → Sd → J → Prop) → XP J → Prop
  | 0, _, _, _, _ => False
  | n + 1, m, j, P, E => tc m j (fun b j1 => if b = true then fb m j1 (turnS (fun m1 j2 => whW tc fb n m1 j2 P E) P) E else P .next m j1) E
def sWhile (tc : Tv J) (fb : Sv J) (m : Sd) (j : J) (P : Fl → Sd → J → Prop) (E : XP J) : Prop := ∃ n, whW tc fb n m j P E
def forW (γ : Gv) (fb : Sv J) : List D → Sd → J → (Fl → Sd → J → Prop) → XP J → Prop
  | [], m, j, P, E => P .next m j
  | d :: ds, m, j, P, E => ∃ m1, γ d m = some m1 ∧ fb m1 j (turnS (fun m2 j2 => forW γ fb ds m2 j2 P E) P) E
def sFor (fi : Iv J) (γ : Gv) (fb : Sv J) (m : Sd) (j : J) (P : Fl → Sd → J → Prop) (E : XP J) : Prop := fi m j (fun ds j1 => forW γ fb ds m j1 P E) E
section
variable {f f1 f2 : Sv J} {fe : Ev J} {tc : Tv J} {γ : Gv} {φ : D → D → Option D} {i : Nat} {fi : Iv J}
theorem thenS_mo {P P' : Fl → Sd → J → Prop} {E E' : XP J} [h2 : MoS f2] (q : ∀ l m' j', P l m' j' → P' l m' j') (x : ∀ e m' j', E e m' j' → E' e m' j') : ∀ l m j, thenS f2 P E l m j → thenS f2 P' E' l m j
  | .next, _, _, h => h2.mo h q x
  | .brk, _, _, h => q _ _ _ h
  | .cnt, _, _, h => q _ _ _ h
  | .ret _, _, _, h => q _ _ _ h
theorem turnS_mo {N N' : Sd → J → Prop} {P P' : Fl → Sd → J → Prop} (n : ∀ m j, N m j → N' m j) (q : ∀ l m' j', P l m' j' → P' l m' j') : ∀ l m j, turnS N P l m j → turnS N' P' l m j
  | .next, _, _, h => n _ _ h
  | .brk, _, _, h => q _ _ _ h
  | .cnt, _, _, h => n _ _ h
  | .ret _, _, _, h => q _ _ _ h
instance : MoS (sNil (J := J)) := ⟨fun h q x => q _ _ _ h⟩
instance [h1 : MoS f1] [h2 : MoS f2] : MoS (sSeq f1 f2) := ⟨fun h q x => h1.mo h (thenS_mo q x) x⟩
instance [h1 : MoE fe] : MoS (sExpr fe) := ⟨fun h q x => h1.mo h (fun _ _ p => q _ _ _ p) x⟩
instance : MoS (sBrk (J := J)) := ⟨fun h q x => q _ _ _ h⟩
instance : MoS (sCnt (J := J)) := ⟨fun h q x => q _ _ _ h⟩
instance : MoS (sNever (J := J)) := ⟨fun h q x => h⟩
instance [h1 : MoE fe] : MoS (sRet fe) := ⟨fun h q x => h1.mo h (fun _ _ p => q _ _ _ p) x⟩
instance : MoS (sRetN (J := J)) := ⟨fun h q x => q _ _ _ h⟩
instance [hc : MoT tc] [h1 : MoS f1] [h2 : MoS f2] : MoS (sIf tc f1 f2) := ⟨fun h q x => hc.mo h (fun _ _ p => ite_mono p (fun p => h1.mo p q x) fun p => h2.mo p q x) x⟩
instance [h1 : MoE fe] : MoS (sSet i fe) := ⟨fun h q x => h1.mo h (fun _ _ p => q _ _ _ p) x⟩
instance [h1 : MoE fe] : MoS (sAsg γ fe) := ⟨fun h q x => h1.mo h (fun _ _ ⟨m, e, p⟩ => ⟨m, e, q _ _ _ p⟩) x⟩
instance [h1 : MoE fe] : MoS (sAug φ i fe) := ⟨fun ⟨y, e, h⟩ q x => ⟨y, e, h1.mo h (fun _ _ ⟨m, e, p⟩ => ⟨m, e, q _ _ _ p⟩) x⟩⟩
theorem whW_mo {fb : Sv J} [hc : MoT tc] [hb : MoS fb] : ∀ {n k : Nat} {m : Sd} {j : J} {P P' : Fl → Sd → J → Prop} {E E' : XP J}, whW tc fb n m j P E → n ≤ k → (∀ l m' j', P l m' j' → P' l m' j') → (∀ e m' j', E e m' j' → E' e m' j') → whW tc fb k m j P' E'
  | 0, _, _, _, _, _, _, _, h, _, _, _ => h.elim
  | n + 1, 0, _, _, _, _, _, _, _, l, _, _ => absurd l (Nat.not_succ_le_zero _)
  | n + 1, k + 1, _, _, _, _, _, _, h, l, q, x => hc.mo h (fun _ _ p => ite_mono p (fun p => hb.mo p (turnS_mo (fun _ _ p => whW_mo p (Nat.le_of_succ_le_succ l) q x) q) x) (q _ _ _)) x
instance {fb : Sv J} [hc : MoT tc] [hb : MoS fb] : MoS (sWhile tc fb) := ⟨fun ⟨n, h⟩ q x => ⟨n, whW_mo h (Nat.le_refl _) q x⟩⟩
theorem forW_mo {fb : Sv J} [hb : MoS fb] : ∀ {ds : List D} {m : Sd} {j : J} {P P' : Fl → Sd → J → Prop} {E E' : XP J}, forW γ fb ds m j P E → (∀ l m' j', P l m' j' → P' l m' j') → (∀ e m' j', E e m' j' → E' e m' j') → forW γ fb ds m j P' E'
  | [], _, _, _, _, _, _, h, q, _ => q _ _ _ h
  | _ :: _, _, _, _, _, _, _, ⟨m1, e, h⟩, q, x => ⟨m1, e, hb.mo h (turnS_mo (fun _ _ p => forW_mo p q x) q) x⟩
instance {fb : Sv J} [hi : MoA fi] [hb : MoS fb] : MoS (sFor fi γ fb) := ⟨fun h q x => hi.mo h (fun _ _ p => forW_mo p q x) x⟩
end
section
variable {S : Js J} {B : Bs} {M : Nat → Bool} {W : WX} {X : Cx} {e a b c tg : Expr} {st : Stmt} {rest body body' : List Stmt} {pos p : Pos} {f fa fb fc fe : Ev J} {fs fs' : Sv J} {tc : Tv J}
theorem EndS.mono {g g' : Gh} {E : Ends} : ∀ {fl : Fl} {m : Sd} {j : J}, EndS S B M g E fl m j → Same g.F g'.F → EndS S B M g' E fl m j
  | .next, _, _, h, l => fun g2 r H l2 ok => h g2 r H (l.trans l2) ok
  | .brk, _, _, h, l => fun g2 r H l2 ok => h g2 r H (l.trans l2) ok
  | .cnt, _, _, h, l => fun g2 r H l2 ok => h g2 r H (l.trans l2) ok
  | .ret d, _, _, h, l => h
theorem s_nil : PSs X [] (rdS S B M W sNil) := PSs.imp pss_nil fun E r H ⟨g, m, j, P, Ep, ok, hf, q, xo⟩ => q _ _ _ hf g r H (Same.refl _) ok
theorem s_cons (h1 : PS X st (rdS S B M W fs)) (h2 : PSs X rest (rdS S B M W fs')) : PSs X (st :: rest) (rdS S B M W (sSeq fs fs')) :=
  PSs.imp (pss_cons h1 h2) fun E r H ⟨g, m, j, P, Ep, ok, hf, q, xo⟩ => by
    refine ⟨g, m, j, _, Ep, ok, hf, fun fl m' j' p => ?_, xo⟩
    cases fl with
    | next => exact fun g' r' H' l ok' => ⟨g', m', j', P, Ep, ok', p, fun fl2 m2 j2 p2 => (q _ _ _ p2).mono l, xo.le l⟩
    | brk => exact q _ _ _ p
    | cnt => exact q _ _ _ p
    | ret d => exact q _ _ _ p
theorem s_expr {k : Cl} (he : PE X e (rdE S B M W k fe)) (hs : swapsWith e none pos.line X.env = pure false) : PS X (.Expr e pos) (rdS S B M W (sExpr fe)) :=
  PS.imp (ps_expr he hs) fun E r H ⟨g, m, j, P, Ep, ok, hf, q, xo⟩ => ⟨g, m, j, _, Ep, ok, hf, fun d j1 g' v H' p l ok' w => q _ _ _ p g' r H' l.f ok', xo⟩
theorem s_doc {x : Str} {j' : Nat} {pos' : Pos} : PS X (.Expr (.Constant (.str x) j' pos) pos') (rdS S B M W sNil) := PS.imp ps_doc fun E r H ⟨g, m, j, P, Ep, ok, hf, q, xo⟩ => q _ _ _ hf g r H (Same.refl _) ok
theorem s_pass : PS X (.Pass pos) (rdS S B M W sNil) := PS.imp ps_pass fun E r H ⟨g, m, j, P, Ep, ok, hf, q, xo⟩ => q _ _ _ hf g r H (Same.refl _) ok
theorem s_break : PS X (.Break pos) (rdS S B M W sBrk) := PS.imp ps_break fun E r H ⟨g, m, j, P, Ep, ok, hf, q, xo⟩ => q _ _ _ hf g r H (Same.refl _) ok
theorem s_continue : PS X (.Continue pos) (rdS S B M W sCnt) := PS.imp ps_continue fun E r H ⟨g, m, j, P, Ep, ok, hf, q, xo⟩ => q _ _ _ hf g r H (Same.refl _) ok
theorem s_never : PS X st (rdS S B M W sNever) := PS.imp ps_never fun E r H ⟨g, m, j, P, Ep, ok, hf, q, xo⟩ => hf.elim
theorem s_ret {k : Cl} (he : PE X e (rdE S B M W k fe)) : PS X (.Return (some e) pos) (rdS S B M W (sRet fe)) :=
  PS.imp (ps_ret he) fun E r H ⟨g, m, j, P, Ep, ok, hf, q, xo⟩ => ⟨g, m, j, _, Ep, ok, hf, fun d j1 g' v H' p l ok' w => q _ _ _ p g' H' v ok'.b (w.mix ok'.b.fg), xo⟩
theorem s_retN : PS X (.Return none pos) (rdS S B M W sRetN) := PS.imp ps_retN fun E r H ⟨g, m, j, P, Ep, ok, hf, q, xo⟩ => q _ _ _ hf g H .non ok.b .non
theorem s_if (hc : PT X c (rdT S B M W tc)) (ha : PSs X body (rdS S B M W fs)) (hb : PSs X body' (rdS S B M W fs')) : PS X (.If c body body' pos) (rdS S B M W (sIf tc fs fs')) :=
  PS.imp (ps_if hc ha hb) fun E r H ⟨g, m, j, P, Ep, ok, hf, q, xo⟩ => ⟨g, m, j, _, Ep, ok, hf, fun b j1 g1 H1 p l1 ok1 => ite_mono p (fun p => ⟨g1, m, _, P, Ep, ok1, p, fun fl m' j' p => (q _ _ _ p).mono l1.f, xo.le l1.f⟩) fun p => ⟨g1, m, _, P, Ep, ok1, p, fun fl m' j' p => (q _ _ _ p).mono l1.f, xo.le l1.f⟩, xo⟩
/-! assignments -/
theorem sSet_rd {i : Nat} {t : TE} (hM : M i = false) (ht : ∀ r H Q, rdE S B M W .clean fe r H Q → t r H Q) {E : Ends} {r : St} {H : Hp} (h : rdS S B M W (sSet i fe) E r H) : tAsg t (gName i) E r H := by
  obtain ⟨g, m, j, P, Ep, ok, hf, q, xo⟩ := h
  exact ht _ _ _ ⟨g, m, j, _, Ep, ok, hf, fun d j1 g' v H' p l ok' w => q _ _ _ p g' _ H' l.f ⟨ok'.b, ok'.s.set_fr hM w⟩, xo⟩
theorem sSetO_rd {i : Nat} {t : TE} (hM : M i = true) (ht : ∀ r H Q, rdE S B M W .fresh fe r H Q → t r H Q) {E : Ends} {r : St} {H : Hp} (h : rdS S B M W (sSet i fe) E r H) : tAsg t (gName i) E r H := by
  obtain ⟨g, m, j, P, Ep, ok, hf, q, xo⟩ := h
  refine ht _ _ _ ⟨g, m, j, _, Ep, ok, hf, fun d j1 g' v H' p l ok' w => ?_, xo⟩
  obtain ⟨a, rfl, n, o⟩ := w
  refine q _ _ _ p g' _ H' l.f ⟨ok'.b, ok'.s.set_ow hM o fun k e hk hMk he z => ?_⟩
  exact (ok.s.apart_fresh (i := i) n) k e hk hMk he z
theorem s_set {i : Nat} {x : Str} {pos' : Pos} (hM : M i = false) (hN : X.N.Nodup) (hi : X.N[i]? = some x) (hx : Loc X.env.scope x) (he : PE X e (rdE S B M W .clean fe)) (hs : swapsWith e (some (.Name x pos')) pos.line X.env = pure false) (hf : X.fn x = true ∨ X.env.scope.names.lookup x = some .local) :
    PS X (.Assign [.Name x pos'] e pos) (rdS S B M W (sSet i fe)) := PS.imp (ps_set hN hi hx he hs hf) fun E r H h => sSet_rd hM (fun _ _ _ z => z) h
theorem s_setO {i : Nat} {x : Str} {pos' : Pos} (hM : M i = true) (hN : X.N.Nodup) (hi : X.N[i]? = some x) (hx : Loc X.env.scope x) (he : PE X e (rdE S B M W .fresh fe)) (hs : swapsWith e (some (.Name x pos')) pos.line X.env = pure false) (hf : X.fn x = true ∨ X.env.scope.names.lookup x = some .local) :
    PS X (.Assign [.Name x pos'] e pos) (rdS S B M W (sSet i fe)) := PS.imp (ps_set hN hi hx he hs hf) fun E r H h => sSetO_rd hM (fun _ _ _ z => z) h
theorem s_asg {γ : Gv} {ks : List Nat} (he : PE X e (rdE S B M W .clean fe)) (hg : PG X tg (rdG S B M false ks γ)) (hs : swapsWithSole [tg] e pos.line X.env = pure false) (hw : swappedStores [tg] e X.env = pure none)
    (h1 : (assignEach [tg] X.env).map (·.2) = [assign tg X.env]) : PS X (.Assign [tg] e pos) (rdS S B M W (sAsg γ fe)) :=
  PS.imp (ps_asg he hg hs hw h1) fun E r H ⟨g, m, j, P, Ep, ok, hf, q, xo⟩ =>
    ⟨g, m, j, _, Ep, ok, hf, fun d j1 g' v H' ⟨m1, h2, p⟩ l ok' w => ⟨g', m, _, _, _, ok', .inl w, h2, fun r' ok'' _ _ => q _ _ _ p g' r' H' l.f ok''⟩, xo⟩
theorem s_aug {op : Operator} {h : Int → Int → Int} {φ : D → D → Option D} {i : Nat} {x : Str} {pos' : Pos} (hφ : ∀ d e z, φ d e = some z → ∃ a b, d = .int a ∧ e = .int b ∧ z = .int (h a b)) (ho : PIp X op (ipI h)) (hM : M i = false) (hN : X.N.Nodup) (hi : X.N[i]? = some x) (hx : Loc X.env.scope x)
    (he : PE X e (rdE S B M W .mix fe)) (hf : X.fn x = true ∨ X.env.scope.names.lookup x = some .local) : PS X (.AugAssign (.Name x pos') op e pos) (rdS S B M W (sAug φ i fe)) :=
  PS.imp (ps_aug hN hi hx he ho hf) fun E r H ⟨g, m, j, P, Ep, ok, ⟨d0, h0, hf⟩, q, xo⟩ => by
    obtain ⟨v0, e1, e2⟩ := ok.s.fr i _ h0 hM
    refine ⟨v0, e1, g, m, j, _, Ep, ok, hf, fun y j1 g' v H' ⟨z, h2, p⟩ l ok' w => ?_, xo⟩
    obtain ⟨a, b, rfl, rfl, rfl⟩ := hφ _ _ _ h2
    exact ⟨a, b, int_of e2, int_of w, q _ _ _ p g' _ H' l.f ⟨ok'.b, ok'.s.set_fr hM (.int _)⟩⟩
end

/-! ### while, for -/
section
variable {S : Js J} {B : Bs} {M : Nat → Bool} {W : WX} {X : Cx} {c tg iter : Expr} {body : List Stmt} {pos : Pos} {tc : Tv J} {fb : Sv J} {fi : Iv J} {γ : Gv} {ks : List Nat} {w : Bool}
theorem s_while (hp : PassesOwn (model X.prog X.w) X.A X.env X.xe) (hc : PT X c (rdT S B M W tc)) (hb : PSs X body (rdS S B M W fb)) : PS X (.While c body [] pos) (rdS S B M W (sWhile tc fb)) :=
  PS.imp (ps_while hp hc hb) fun E r H ⟨g, m, j, P, Ep, ok, ⟨n, hn⟩, q, xo⟩ => by
    refine ⟨fun k r H => ∃ g1 m1 j1, Same g.F g1.F ∧ Ok S B g1 M r H m1 j1 ∧ whW tc fb k m1 j1 P Ep, ⟨n, g, m, j, Same.refl _, ok, hn⟩, ?_⟩
    rintro k r1 H1 ⟨g1, m1, j1, l1, ok1, hk⟩
    cases k with
    | zero => exact hk.elim
    | succ k =>
      refine ⟨g1, m1, j1, _, Ep, ok1, hk, fun b j2 g2 H2 p l2 ok2 => ite_mono p (fun p => ?_) (fun p => q _ _ _ p g2 _ H2 (l1.trans l2.f) ok2), xo.le l1⟩
      refine ⟨fun r3 H3 => ∃ g3 m3 j3, Same g.F g3.F ∧ Ok S B g3 M r3 H3 m3 j3 ∧ whW tc fb k m3 j3 P Ep, fun r3 H3 h3 => ⟨k, Nat.lt_succ_self _, h3⟩, ?_⟩
      refine ⟨g2, m1, _, _, Ep, ok2, p, fun fl m3 j3 p => ?_, xo.le (l1.trans l2.f)⟩
      cases fl with
      | next => exact fun g4 r4 H4 l4 ok4 => ⟨g4, m3, j3, (l1.trans l2.f).trans l4, ok4, p⟩
      | cnt => exact fun g4 r4 H4 l4 ok4 => ⟨g4, m3, j3, (l1.trans l2.f).trans l4, ok4, p⟩
      | brk => exact fun g4 r4 H4 l4 ok4 => q _ _ _ p g4 r4 H4 ((l1.trans l2.f).trans l4) ok4
      | ret d => exact q _ _ _ p
theorem s_for (hp : PassesOwn (model X.prog X.w) X.A X.env X.xe) (hc : X.calm = true) (hi : PI X tg iter (rdI S B M W true w fi)) (hg : PG X tg (rdG S B M w ks γ)) (hb : PSs X body (rdS S B M W fb)) (hs : ∀ x, foldedSetIterable iter X.env x = pure x) :
    PS X (.For tg iter body [] pos) (rdS S B M W (sFor fi γ fb)) :=
  PS.imp (ps_for hp hc hi hg hb hs) fun E r H ⟨g, m, j, P, Ep, ok, hf, q, xo⟩ => by
    refine ⟨g, m, j, _, Ep, ok, hf, fun ds j1 g1 H1 Jt hf l1 ok1 wk => ?_, xo⟩
    refine for_it wk (fun i r H => ∃ g2 m2 j2, Same g1.F g2.F ∧ Ok S B g2 M r H m2 j2 ∧ forW γ fb (ds.drop i) m2 j2 P Ep) ⟨g1, m, j1, Same.refl _, ok1, by rw [List.drop_zero]; exact hf⟩ ?_ ?_ ?_
    · rintro i r2 H2 hi ⟨g2, m2, j2, l2, ok2, h2⟩
      exact l2.trans (ok2.b.fg.trans ok2.b.gh)
    · rintro i y r2 H2 H2' hi ⟨g2, m2, j2, l2, ok2, h2⟩ ⟨dd, hdd, yy⟩
      have hdrop : ds.drop i = dd :: ds.drop (i + 1) := by
        obtain ⟨hlt, he⟩ := List.getElem?_eq_some_iff.mp hdd
        rw [List.drop_eq_getElem_cons hlt, he]
      rw [hdrop] at h2
      obtain ⟨m3, hm3, h2⟩ := h2
      have item : ∃ g3, Le g2 g3 ∧ Ok S B g3 M r2 H2' m2 j2 ∧ RpX S g3.F w dd y := by
        rcases yy with ⟨rfl, rp⟩ | ⟨hw, T, vs, es, rfl, hT, rfl, rfl, rl⟩ | ⟨T, o, vs, es, rfl, hT, hdo, rfl, rfl, rl⟩
        · exact ⟨g2, Le.refl _, ok2, .inl (rp.mono l2)⟩
        · obtain ⟨t1, t2, t3, t4⟩ := ok2.b.hn hT
          exact ⟨_, Le.frz ok2.b.fg t2, ⟨ok2.b.frz _ hT, ok2.s.le (Le.frz ok2.b.fg t2)⟩, .inr ⟨hw, T, vs, es, rfl, upd_same, rfl, (rl.mono l2).mono (same_new t1)⟩⟩
        · obtain ⟨t1, t2, t3, t4⟩ := ok2.b.hn hT
          exact ⟨_, Le.frz ok2.b.fg t2, ⟨ok2.b.frz _ hT, ok2.s.le (Le.frz ok2.b.fg t2)⟩, .inl (.tup (.inl ⟨o, upd_same, hdo⟩) ((rl.mono l2).mono (same_new t1)))⟩
      obtain ⟨g3, l3, ok3, rp3⟩ := item
      refine ⟨g3, m2, j2, dd, m3, ok3, rp3, hm3, fun r4 ok4 len4 k4 => ?_⟩
      have l23 := l2.trans l3.f
      refine ⟨g3, m3, j2, _, Ep, ok4, h2, fun fl m5 j5 p => ?_, xo.le (l1.f.trans l23)⟩
      cases fl with
      | next => exact fun g6 r6 H6 l6 ok6 => ⟨g6, m5, j5, l23.trans l6, ok6, p⟩
      | cnt => exact fun g6 r6 H6 l6 ok6 => ⟨g6, m5, j5, l23.trans l6, ok6, p⟩
      | brk => exact fun g6 r6 H6 l6 ok6 => q _ _ _ p g6 r6 H6 ((l1.f.trans l23).trans l6) ok6
      | ret d => exact q _ _ _ p
    · rintro r2 H2 ⟨g2, m2, j2, l2, ok2, h2⟩
      rw [List.drop_length] at h2
      exact q _ _ _ h2 g2 r2 H2 (l1.f.trans l2) ok2
end
end Mp

/-! Mp8: stores into owned lists; two and three names at once; t.index(x); defs. -/
namespace Mp
open PySem PySem.Spec L2
open PyProof.Rows hiding St
variable {J : Type}

/-- the owned thing at a is written -/
def Gh.put (g : Gh) (a : Addr) (o : HO) : Gh := ⟨g.F, upd g.G a o, g.A⟩
section
variable {S : Js J} {B : Bs} {M : Nat → Bool} {X : Cx} {g : Gh} {H : Hp} {j : J} {a : Addr} {r : St} {m : Sd} {i : Nat} {d d' : D}
theorem OkB.own0 (k : OkB S B g H j) {o : HO} (hF : g.F a = none) (hG : g.G a = some o) : B.H0 a = none := by
  rcases k.g0 a o hG with z | z
  · have := k.f0 a o z
    rw [hF] at this; cases this
  · exact z
theorem OkB.put (k : OkB S B g H j) {o o' : HO} (hF : g.F a = none) (hG : g.G a = some o') (ho : ∀ x y, o' ≠ .frz x y) : OkB S B (g.put a o) (upd H a o) j := by
  have h0 := k.own0 hF hG
  refine ⟨fun b u e => ?_, same_upd k.gh, fun b u e => ?_, S.frame k.jr (Same.refl _) fun b z => upd_ne fun q => k.ga a o' hG (q ▸ z), k.f0, fun b u e => ?_, k.a0, fun b u e n => ?_, fun b e => ?_, ?_⟩
  · show upd g.G a o b = some u
    rw [upd_ne (ne_of_none e hF)]; exact k.fg b u e
  · have e' : upd g.G a o b = some u := e
    by_cases hb : b = a
    · subst hb; exact k.ga b o' hG
    · rw [upd_ne hb] at e'; exact k.ga b u e'
  · have e' : upd g.G a o b = some u := e
    by_cases hb : b = a
    · subst hb; exact .inr h0
    · rw [upd_ne hb] at e'; exact k.g0 b u e'
  · rw [upd_ne (ne_of_none e h0)]; exact k.h0 b u e n
  · by_cases hb : b = a
    · subst hb; rw [upd_same] at e; cases e
    · rw [upd_ne hb] at e; exact k.h1 b e
  · obtain ⟨o1, u1, e1⟩ := k.sm
    refine ⟨o1, u1, ?_⟩
    rw [upd_ne fun z => ho o1 u1 (by have := k.gh _ _ hG; rw [← z, e1] at this; exact (Option.some.inj this).symm)]
    exact e1
theorem Own.putO {b : Addr} {o : HO} (h : Own S g d b) (hb : b ≠ a) : Own S (g.put a o) d b := by
  obtain ⟨n, ⟨ds, vs, rfl, e, t⟩ | ⟨kds, kvs, rfl, e, l, t⟩ | ⟨kds, kvs, rfl, e, l, t⟩⟩ := h
  · exact ⟨n, .inl ⟨ds, vs, rfl, by show upd g.G a o b = _; rw [upd_ne hb]; exact e, t⟩⟩
  · exact ⟨n, .inr (.inl ⟨kds, kvs, rfl, by show upd g.G a o b = _; rw [upd_ne hb]; exact e, l, t⟩)⟩
  · exact ⟨n, .inr (.inr ⟨kds, kvs, rfl, by show upd g.G a o b = _; rw [upd_ne hb]; exact e, l, t⟩)⟩
theorem Slots.put (h : Slots S g M r m) (hM : M i = true) (hm : m[i]? = some (some d)) (hr : r[i]? = some (some (.ref a))) {o : HO} (ow : Own S (g.put a o) d' a) : Slots S (g.put a o) M r (m.set i (some d')) := by
  have hi : i < m.length := (List.getElem?_eq_some_iff.mp hm).1
  have get : ∀ {k : Nat} {e : D}, (m.set i (some d'))[k]? = some (some e) → (k = i ∧ e = d') ∨ (k ≠ i ∧ m[k]? = some (some e)) := fun {k e} q => by
    by_cases hk : k = i
    · subst hk
      rw [List.getElem?_set_self hi] at q
      cases q
      exact .inl ⟨rfl, rfl⟩
    · rw [List.getElem?_set_ne (Ne.symm hk)] at q
      exact .inr ⟨hk, q⟩
  have old : ∀ {k : Nat} {e : D}, (m.set i (some d'))[k]? = some (some e) → ∃ e', m[k]? = some (some e') := fun {k e} q => by
    rcases get q with ⟨rfl, rfl⟩ | ⟨_, q⟩
    · exact ⟨_, hm⟩
    · exact ⟨_, q⟩
  refine ⟨by rw [List.length_set]; exact h.len, fun k e q hk => ?_, fun k e q hk => ?_, fun k l b e e' q1 q2 hk hl h1 h2 => ?_⟩
  · rcases get q with ⟨rfl, rfl⟩ | ⟨hn, q⟩
    · rw [hM] at hk; cases hk
    · exact h.fr k e q hk
  · rcases get q with ⟨rfl, rfl⟩ | ⟨hn, q⟩
    · exact ⟨a, hr, ow⟩
    · obtain ⟨b, h1, h2⟩ := h.ow k e q hk
      exact ⟨b, h1, h2.putO fun z => hn (h.dj k i a e d q hm hk hM (z ▸ h1) hr)⟩
  · obtain ⟨x, q1⟩ := old q1
    obtain ⟨y, q2⟩ := old q2
    exact h.dj k l b x y q1 q2 hk hl h1 h2
end

def sApp (i : Nat) (fe : Ev J) (m : Sd) (j : J) (P : Fl → Sd → J → Prop) (E : XP J) : Prop :=
  ∃ xs, m[i]? = some (some (.lst xs)) ∧ fe m j (fun d j1 => xs.length < LINE ∧ P .next (m.set i (some (.lst (xs ++ [d])))) j1) E
def sExt (i : Nat) (fe : Ev J) (m : Sd) (j : J) (P : Fl → Sd → J → Prop) (E : XP J) : Prop :=
  ∃ xs, m[i]? = some (some (.lst xs)) ∧ fe m j (fun d j1 => ∃ ys, d = .lst ys ∧ xs.length + ys.length ≤ LINE ∧ P .next (m.set i (some (.lst (xs ++ ys)))) j1) E
/-- i[k] = e -/
def sSetIx (i : Nat) (fk fe : Ev J) (m : Sd) (j : J) (P : Fl → Sd → J → Prop) (E : XP J) : Prop :=
  ∃ xs, m[i]? = some (some (.lst xs)) ∧ fe m j (fun d j1 => fk m j1 (fun kk j2 => ∃ k n, kk = .int k ∧ ixN xs.length k = some n ∧ P .next (m.set i (some (.lst (xs.set n d)))) j2) E) E
/-- i.append(k.pop(e)) -/
def sAppPop (i k : Nat) (fe : Ev J) (m : Sd) (j : J) (P : Fl → Sd → J → Prop) (E : XP J) : Prop :=
  ∃ xs ys, m[i]? = some (some (.lst xs)) ∧ m[k]? = some (some (.lst ys)) ∧ i ≠ k ∧ fe m j (fun d j1 => ∃ n y, d = .int n ∧ 0 ≤ n ∧ n < (ys.length : Int) ∧ xs.length < LINE ∧ ys.length ≤ LINE ∧ ys[n.toNat]? = some y ∧
    P .next ((m.set k (some (.lst (ys.eraseIdx n.toNat)))).set i (some (.lst (xs ++ [y])))) j1) E
/-- γ = i.pop() -/
def sPopTo (i : Nat) (γ : Gv) (m : Sd) (j : J) (P : Fl → Sd → J → Prop) (E : XP J) : Prop :=
  ∃ xs y m1, m[i]? = some (some (.lst xs)) ∧ xs.getLast? = some y ∧ γ y (m.set i (some (.lst xs.dropLast))) = some m1 ∧ P .next m1 j
section
variable {i k : Nat} {f1 f2 f3 : Ev J} {γ : Gv}
instance [h1 : MoE f1] : MoS (sApp i f1) := ⟨fun ⟨xs, e, h⟩ q x => ⟨xs, e, h1.mo h (fun _ _ ⟨l, p⟩ => ⟨l, q _ _ _ p⟩) x⟩⟩
instance [h1 : MoE f1] : MoS (sExt i f1) := ⟨fun ⟨xs, e, h⟩ q x => ⟨xs, e, h1.mo h (fun _ _ ⟨ys, e, l, p⟩ => ⟨ys, e, l, q _ _ _ p⟩) x⟩⟩
instance [h1 : MoE f1] [h2 : MoE f2] : MoS (sSetIx i f1 f2) := ⟨fun ⟨xs, e, h⟩ q x => ⟨xs, e, h2.mo h (fun _ _ p => h1.mo p (fun _ _ ⟨k, n, e, l, p⟩ => ⟨k, n, e, l, q _ _ _ p⟩) x) x⟩⟩
instance [h1 : MoE f1] : MoS (sAppPop i k f1) := ⟨fun ⟨xs, ys, e1, e2, n, h⟩ q x => ⟨xs, ys, e1, e2, n, h1.mo h (fun _ _ ⟨n, y, a1, a2, a3, a4, a5, a6, p⟩ => ⟨n, y, a1, a2, a3, a4, a5, a6, q _ _ _ p⟩) x⟩⟩
instance : MoS (sPopTo (J := J) i γ) := ⟨fun ⟨xs, y, m1, a, b, c, p⟩ q x => ⟨xs, y, m1, a, b, c, q _ _ _ p⟩⟩
end
section
variable {S : Js J} {B : Bs} {M : Nat → Bool} {W : WX} {X : Cx} {e ek a b c tg : Expr} {pos p ap np : Pos} {fe fk : Ev J} {i k : Nat} {x y : Str}
theorem own_lst {g : Gh} {xs : List D} {a : Addr} (h : Own S g (.lst xs) a) : g.F a = none ∧ ∃ vs, g.G a = some (.lst vs) ∧ RpL S g.F xs vs := by
  obtain ⟨n, ⟨ds, vs, e, e2, t⟩ | ⟨kds, kvs, e, _⟩ | ⟨kds, kvs, e, _⟩⟩ := h
  · cases e; exact ⟨n, vs, e2, t⟩
  · cases e
  · cases e
/-- the facts of a method's call on a name -/
structure MtN (X : Cx) (i : Nat) (x : Str) : Prop where
  n : X.N[i]? = some x
  v : Vis X.env.scope x
  d : (x == ("__debug__" : Str)) = false
  c : (x == ("__classdict__" : Str)) = false
theorem MtN.pe (h : MtN X i x) {q : Pos} : PE X (.Name x q) (tVar i) := pe_var h.n h.v h.d h.c
theorem s_app (hM : M i = true) (hx : MtN X i x) (he : PE X e (rdE S B M W .clean fe)) (hl : (ap.endLine == p.line) = true) (hs : starEach [e] X.env = [(false, eval e X.env)])
    (hb : attributeBase (.Name x np) "append" X.env (eval (.Name x np) X.env) = eval (.Name x np) X.env) (hf : ((backTo p (starEach [e] X.env)).all (fun x => !x.1) && (backToKw p (keywordEach [] X.env)).all (fun x => x.1.isSome)
      && decide (([e] : List Expr).length + ([] : List Keyword).length + (if ([] : List Keyword).isEmpty then 0 else 1) < 30)) = true) (hsw : swapsWith (.Call (.Attribute (.Name x np) "append" ap) [e] [] p) none pos.line X.env = pure false) :
    PS X (.Expr (.Call (.Attribute (.Name x np) "append" ap) [e] [] p) pos) (rdS S B M W (sApp i fe)) :=
  PS.imp (ps_expr (pe_bm PySem.F.plainAttrs_list PySem.F.slot_list_append PySem.F.type_list_append mt_append hx.pe (pa_cons he pa_nil hs) hb hf hl hs rfl) hsw) fun E r H ⟨g, m, j, P, Ep, ok, ⟨xs, hm, hf⟩, q, xo⟩ => by
    obtain ⟨a, hr, ho⟩ := ok.s.ow i _ hm hM
    obtain ⟨_, vs0, hG0, _⟩ := own_lst ho
    refine ⟨_, hr, .inl ⟨rfl, _, .of (ok.b.gh _ _ hG0)⟩, g, m, j, _, Ep, ok, hf, fun d j1 g1 v H1 ⟨hlen, p⟩ l1 ok1 w => ?_, xo⟩
    obtain ⟨hF, vs, hG, t⟩ := own_lst (ho.le l1)
    refine ⟨a, vs, v, rfl, rfl, ok1.b.gh _ _ hG, by rw [← t.length]; exact Nat.lt_of_lt_of_le hlen line_ok, ?_⟩
    refine q _ _ _ p (g1.put a (.lst (vs ++ [v]))) r _ l1.f ⟨ok1.b.put hF hG (by intro x y z; cases z), ok1.s.put hM hm hr ⟨hF, .inl ⟨_, _, rfl, upd_same, t.append (.cons w .nil)⟩⟩⟩
theorem s_ext (hM : M i = true) (hx : MtN X i x) (he : PE X e (rdE S B M W .clean fe)) (hl : (ap.endLine == p.line) = true) (hs : starEach [e] X.env = [(false, eval e X.env)])
    (hb : attributeBase (.Name x np) "extend" X.env (eval (.Name x np) X.env) = eval (.Name x np) X.env) (hf : ((backTo p (starEach [e] X.env)).all (fun x => !x.1) && (backToKw p (keywordEach [] X.env)).all (fun x => x.1.isSome)
      && decide (([e] : List Expr).length + ([] : List Keyword).length + (if ([] : List Keyword).isEmpty then 0 else 1) < 30)) = true) (hsw : swapsWith (.Call (.Attribute (.Name x np) "extend" ap) [e] [] p) none pos.line X.env = pure false) :
    PS X (.Expr (.Call (.Attribute (.Name x np) "extend" ap) [e] [] p) pos) (rdS S B M W (sExt i fe)) :=
  PS.imp (ps_expr (pe_bm PySem.F.plainAttrs_list PySem.F.slot_list_extend PySem.F.type_list_extend mt_extend hx.pe (pa_cons he pa_nil hs) hb hf hl hs rfl) hsw) fun E r H ⟨g, m, j, P, Ep, ok, ⟨xs, hm, hf⟩, q, xo⟩ => by
    obtain ⟨a, hr, ho⟩ := ok.s.ow i _ hm hM
    obtain ⟨_, vs0, hG0, _⟩ := own_lst ho
    refine ⟨_, hr, .inl ⟨rfl, _, .of (ok.b.gh _ _ hG0)⟩, g, m, j, _, Ep, ok, hf, fun d j1 g1 v H1 hh l1 ok1 w => ?_, xo⟩
    obtain ⟨ys, rfl, hlen, p⟩ := hh
    obtain ⟨hF, vs, hG, t⟩ := own_lst (ho.le l1)
    obtain ⟨b, ws, rfl, hb, rb⟩ := lst_of w
    refine ⟨a, b, vs, ws, rfl, rfl, ok1.b.gh _ _ hG, (ok1.b.fg.trans ok1.b.gh) _ _ hb, by rw [← t.length, ← rb.length]; exact Nat.le_trans hlen line_ok, ?_⟩
    refine q _ _ _ p (g1.put a (.lst (vs ++ ws))) r _ l1.f ⟨ok1.b.put hF hG (by intro x y z; cases z), ok1.s.put hM hm hr ⟨hF, .inl ⟨_, _, rfl, upd_same, t.append rb⟩⟩⟩
theorem ixN_lt {n : Nat} {k : Int} {l : Nat} (h : ixN n k = some l) : l < n := by
  unfold ixN at h
  split at h
  · split at h
    · cases h; omega
    · cases h
  · split at h
    · cases h; omega
    · cases h
theorem s_setIx (hM : M i = true) (hx : MtN X i x) (he : PE X e (rdE S B M W .clean fe)) (hk : PE X ek (rdE S B M W .mix fk)) (hs : swapsWithSole [.Subscript (.Name x np) ek p] e pos.line X.env = pure false) (hw : swappedStores [.Subscript (.Name x np) ek p] e X.env = pure none)
    (h1 : (assignEach [.Subscript (.Name x np) ek p] X.env).map (·.2) = [assign (.Subscript (.Name x np) ek p) X.env])
    (ha : ∀ v, assign (.Subscript (.Name x np) ek p) X.env v = (do
      let ov ← holding [v] (eval (.Name x np) X.env)
      let iv ← holding [v, ov] (eval ek X.env)
      standAt p
      holding [v, ov, iv] (setItem ov iv v)
      release [v, ov, iv] [])) :
    PS X (.Assign [.Subscript (.Name x np) ek p] e pos) (rdS S B M W (sSetIx i fk fe)) :=
  PS.imp (ps_asg he (pg_sub hx.pe hk set_list ha) hs hw h1) fun E r H ⟨g, m, j, P, Ep, ok, ⟨xs, hm, hf⟩, q, xo⟩ => by
    obtain ⟨a, hr, ho⟩ := ok.s.ow i _ hm hM
    refine ⟨g, m, j, _, Ep, ok, hf, fun d j1 g1 v H1 h1 l1 ok1 w => ⟨_, hr, g1, m, _, _, Ep, ok1, h1, fun kd j2 g2 v2 H2 hh l2 ok2 w2 => ?_, xo.le l1.f⟩, xo⟩
    obtain ⟨kk, n, rfl, h4, p⟩ := hh
    obtain ⟨hF, vs, hG, t⟩ := own_lst (ho.le (l1.trans l2))
    refine ⟨a, vs, kk, n, rfl, int_of w2, ok2.b.gh _ _ hG, by rw [← t.length]; exact h4, ?_⟩
    refine q _ _ _ p (g2.put a (.lst (vs.set n v))) r _ (l1.trans l2).f ⟨ok2.b.put hF hG (by intro x y z; cases z), ok2.s.put hM hm hr ⟨hF, .inl ⟨_, _, rfl, upd_same, t.set (Rp.mono l2.f w) n⟩⟩⟩
theorem seqIx {n : Int} {l : Nat} (h0 : 0 ≤ n) (h1 : n < (l : Int)) : seqIndex? n l = some n.toNat := by
  unfold seqIndex?
  have : ¬ n < 0 := by omega
  simp [this, h0, h1]
theorem s_appPop (hMi : M i = true) (hMk : M k = true) (hx : MtN X i x) (hy : MtN X k y) {ap2 np2 p2 : Pos} (he : PE X e (rdE S B M W .mix fe)) (hl : (ap.endLine == p.line) = true) (hl2 : (ap2.endLine == p2.line) = true)
    (hs : starEach [.Call (.Attribute (.Name y np2) "pop" ap2) [e] [] p2] X.env = [(false, eval (.Call (.Attribute (.Name y np2) "pop" ap2) [e] [] p2) X.env)]) (hs2 : starEach [e] X.env = [(false, eval e X.env)])
    (hb : attributeBase (.Name x np) "append" X.env (eval (.Name x np) X.env) = eval (.Name x np) X.env) (hb2 : attributeBase (.Name y np2) "pop" X.env (eval (.Name y np2) X.env) = eval (.Name y np2) X.env)
    (hf : ((backTo p (starEach [.Call (.Attribute (.Name y np2) "pop" ap2) [e] [] p2] X.env)).all (fun x => !x.1) && (backToKw p (keywordEach [] X.env)).all (fun x => x.1.isSome)
      && decide (([.Call (.Attribute (.Name y np2) "pop" ap2) [e] [] p2] : List Expr).length + ([] : List Keyword).length + (if ([] : List Keyword).isEmpty then 0 else 1) < 30)) = true)
    (hf2 : ((backTo p2 (starEach [e] X.env)).all (fun x => !x.1) && (backToKw p2 (keywordEach [] X.env)).all (fun x => x.1.isSome)
      && decide (([e] : List Expr).length + ([] : List Keyword).length + (if ([] : List Keyword).isEmpty then 0 else 1) < 30)) = true)
    (hsw : swapsWith (.Call (.Attribute (.Name x np) "append" ap) [.Call (.Attribute (.Name y np2) "pop" ap2) [e] [] p2] [] p) none pos.line X.env = pure false) :
    PS X (.Expr (.Call (.Attribute (.Name x np) "append" ap) [.Call (.Attribute (.Name y np2) "pop" ap2) [e] [] p2] [] p) pos) (rdS S B M W (sAppPop i k fe)) :=
  PS.imp (ps_expr (pe_bm PySem.F.plainAttrs_list PySem.F.slot_list_append PySem.F.type_list_append mt_append hx.pe
    (pa_cons (pe_bm PySem.F.plainAttrs_list PySem.F.slot_list_pop PySem.F.type_list_pop mt_popAt hy.pe (pa_cons he pa_nil hs2) hb2 hf2 hl2 hs2 rfl) pa_nil hs) hb hf hl hs rfl) hsw) fun E r H ⟨g, m, j, P, Ep, ok, ⟨xs, ys, hmi, hmk, c5, hf⟩, q, xo⟩ => by
    obtain ⟨a, hri, hoi⟩ := ok.s.ow i _ hmi hMi
    obtain ⟨b, hrk, hok⟩ := ok.s.ow k _ hmk hMk
    obtain ⟨_, vs0, hG0, _⟩ := own_lst hoi
    obtain ⟨_, ws0, hGk0, _⟩ := own_lst hok
    refine ⟨_, hri, .inl ⟨rfl, _, .of (ok.b.gh _ _ hG0)⟩, _, hrk, .inl ⟨rfl, _, .of (ok.b.gh _ _ hGk0)⟩, g, m, j, _, Ep, ok, hf, fun d j1 g1 v H1 hh l1 ok1 w => ?_, xo⟩
    obtain ⟨n, yy, rfl, c1, c2, c3, c4, h4, p⟩ := hh
    have hab : a ≠ b := fun z => c5 (ok.s.dj i k a _ _ hmi hmk hMi hMk hri (z ▸ hrk))
    obtain ⟨hFk, ws, hGk, tk⟩ := own_lst (hok.le l1)
    obtain ⟨wy, hwy, ry⟩ := tk.get h4
    have hlen := tk.length
    refine ⟨b, ws, n, n.toNat, wy, rfl, by rw [int_of w], ok1.b.gh _ _ hGk, by omega, by have : LINE = 1000000 := rfl; omega, by rw [← hlen]; exact seqIx c1 c2, hwy, ?_⟩
    have ok2 : OkB S B (g1.put b (.lst (ws.eraseIdx n.toNat))) (upd H1 b (.lst (ws.eraseIdx n.toNat))) j1 := ok1.b.put hFk hGk (by intro x y z; cases z)
    have sl2 : Slots S (g1.put b (.lst (ws.eraseIdx n.toNat))) M r (m.set k (some (.lst (ys.eraseIdx n.toNat)))) := ok1.s.put hMk hmk hrk ⟨hFk, .inl ⟨_, _, rfl, upd_same, tk.eraseIdx _⟩⟩
    have hmi2 : (m.set k (some (.lst (ys.eraseIdx n.toNat))))[i]? = some (some (.lst xs)) := by rw [List.getElem?_set_ne (Ne.symm c5)]; exact hmi
    obtain ⟨hF, vs, hG, t⟩ := own_lst ((hoi.le l1).putO (o := .lst (ws.eraseIdx n.toNat)) hab)
    refine ⟨a, vs, wy, rfl, rfl, ok2.gh _ _ hG, by rw [← t.length]; exact Nat.lt_of_lt_of_le c3 line_ok, ?_⟩
    exact q _ _ _ p ((g1.put b (.lst (ws.eraseIdx n.toNat))).put a (.lst (vs ++ [wy]))) r _ l1.f ⟨ok2.put hF hG (by intro x y z; cases z), sl2.put hMi hmi2 hri ⟨hF, .inl ⟨_, _, rfl, upd_same, t.append (.cons ry .nil)⟩⟩⟩
theorem s_popTo {γ : Gv} {ks : List Nat} {ap2 np2 : Pos} (hM : M i = true) (hx : MtN X i x) (hg : PG X tg (rdG S B M false ks γ)) (hl : (ap.endLine == p.line) = true) (hb : attributeBase (.Name x np) "pop" X.env (eval (.Name x np) X.env) = eval (.Name x np) X.env)
    (hs : swapsWithSole [tg] (.Call (.Attribute (.Name x np) "pop" ap) [] [] p) pos.line X.env = pure false) (hw : swappedStores [tg] (.Call (.Attribute (.Name x np) "pop" ap) [] [] p) X.env = pure none)
    (h1 : (assignEach [tg] X.env).map (·.2) = [assign tg X.env]) : PS X (.Assign [tg] (.Call (.Attribute (.Name x np) "pop" ap) [] [] p) pos) (rdS S B M W (sPopTo i γ)) :=
  PS.imp (ps_asg (pe_bm0 PySem.F.plainAttrs_list PySem.F.slot_list_pop PySem.F.type_list_pop mt_pop hx.pe hb hl) hg hs hw h1) fun E r H ⟨g, m, j, P, Ep, ok, hf, q, xo⟩ => by
    obtain ⟨xs, y, m1, hm, h3, h4, p⟩ := hf
    obtain ⟨a, hr, ho⟩ := ok.s.ow i _ hm hM
    obtain ⟨hF, vs, hG, t⟩ := own_lst ho
    rw [List.getLast?_eq_getElem?] at h3
    obtain ⟨wy, hwy, ry⟩ := t.get h3
    refine ⟨_, hr, .inl ⟨rfl, _, .of (ok.b.gh _ _ hG)⟩, a, vs, wy, rfl, rfl, ok.b.gh _ _ hG, by rw [← t.length]; exact hwy, ?_⟩
    have ok2 : OkB S B (g.put a (.lst vs.dropLast)) (upd H a (.lst vs.dropLast)) j := ok.b.put hF hG (by intro x y z; cases z)
    have sl2 : Slots S (g.put a (.lst vs.dropLast)) M r (m.set i (some (.lst xs.dropLast))) := ok.s.put hM hm hr ⟨hF, .inl ⟨_, _, rfl, upd_same, t.dropLast⟩⟩
    exact ⟨_, _, j, _, _, ⟨ok2, sl2⟩, .inl ry, h4, fun r' ok' _ _ => q _ _ _ p (g.put a (.lst vs.dropLast)) r' _ (Same.refl _) ok'⟩
end

/-! ### two and three names at once -/
def clOf (M : Nat → Bool) (i : Nat) : Cl := if M i then .fresh else .clean
def sPr2 (i k : Nat) (fa fb : Ev J) (m : Sd) (j : J) (P : Fl → Sd → J → Prop) (E : XP J) : Prop := fa m j (fun x j1 => fb m j1 (fun y j2 => P .next ((m.set i (some x)).set k (some y)) j2) E) E
def sPr3 (i k l : Nat) (fa fb fc : Ev J) (m : Sd) (j : J) (P : Fl → Sd → J → Prop) (E : XP J) : Prop := fa m j (fun x j1 => fb m j1 (fun y j2 => fc m j2 (fun z j3 => P .next (((m.set i (some x)).set k (some y)).set l (some z)) j3) E) E) E
instance {i k : Nat} {f1 f2 : Ev J} [h1 : MoE f1] [h2 : MoE f2] : MoS (sPr2 i k f1 f2) := ⟨fun h q x => h1.mo h (fun _ _ h => h2.mo h (fun _ _ p => q _ _ _ p) x) x⟩
instance {i k l : Nat} {f1 f2 f3 : Ev J} [h1 : MoE f1] [h2 : MoE f2] [h3 : MoE f3] : MoS (sPr3 i k l f1 f2 f3) := ⟨fun h q x => h1.mo h (fun _ _ h => h2.mo h (fun _ _ h => h3.mo h (fun _ _ p => q _ _ _ p) x) x) x⟩
section
variable {S : Js J} {B : Bs} {M : Nat → Bool} {W : WX} {X : Cx} {g0 g g' : Gh} {r : St} {m : Sd} {i k l : Nat} {d : D} {v : V}
/-- no owned slot holds v -/
def Apt (M : Nat → Bool) (r : St) (m : Sd) (v : V) : Prop := ∀ k e, M k = true → m[k]? = some (some e) → r[k]? ≠ some (some v)
theorem Slots.setC (h : Slots S g M r m) (w : Val S g0 g (clOf M i) d v) (ap : M i = true → Apt M r m v) : Slots S g M (r.set i (some v)) (m.set i (some d)) := by
  unfold clOf at w
  cases hM : M i with
  | false => rw [hM] at w; exact h.set_fr hM w
  | true =>
    rw [hM] at w
    obtain ⟨a, rfl, n, o⟩ := w
    exact h.set_ow hM o fun k e _ hk he => ap hM k e hk he
theorem Slots.apt (h : Slots S g M r m) {w : Cl} (v' : Val S g g' .fresh d v) : Apt M r m v := fun k e hk he z => by
  obtain ⟨a, rfl, n, _⟩ := v'
  exact (h.apart_fresh (i := k + 1) n) k e (by omega) hk he z
theorem apt_set {r : St} {m : Sd} {v : V} (h : Apt M r m v) {i : Nat} {d : D} {u : V} (n : M i = true → u ≠ v) : Apt M (r.set i (some u)) (m.set i (some d)) v := fun k e hk he z => by
  by_cases hki : k = i
  · subst hki
    have hl : k < m.length := by
      have := (List.getElem?_eq_some_iff.mp he).1
      simpa using this
    by_cases hr : k < r.length
    · rw [List.getElem?_set_self hr] at z
      cases z
      exact n hk rfl
    · rw [List.getElem?_eq_none (by simpa using hr)] at z
      cases z
  · rw [List.getElem?_set_ne (Ne.symm hki)] at he z
    exact h k e hk he z
theorem val_in (h : Val S g0 g .fresh d v) : ∃ a o, v = .ref a ∧ g.G a = some o := by
  obtain ⟨a, rfl, _, o⟩ := h
  obtain ⟨ob, e⟩ := o.in_g
  exact ⟨a, ob, rfl, e⟩
theorem clOf_fresh (hM : M i = true) (h : Val S g0 g (clOf M i) d v) : Val S g0 g .fresh d v := by
  unfold clOf at h; rw [hM] at h; exact h
variable {a b c : Expr} {fa fb fc : Ev J} {pos px py pz pt pt2 : Pos} {kt k2 : Nat} {x y z : Str}
theorem s_pr2 (hc : X.calm = true) (hN : X.N.Nodup) (hi : X.N[i]? = some x) (hk : X.N[k]? = some y) (hik : i ≠ k) (hx : X.env.scope.names.lookup x = some .local) (hy : X.env.scope.names.lookup y = some .local)
    (ha : PE X a (rdE S B M W (clOf M i) fa)) (hb : PE X b (rdE S B M W (clOf M k) fb)) (hs1 : starEach [a, b] X.env = (false, eval a X.env) :: starEach [b] X.env) (hs2 : starEach [b] X.env = [(false, eval b X.env)])
    (hw : swappedStores [.Tuple [.Name x px, .Name y py] kt pt] (.Tuple [a, b] k2 pt2) X.env = pure (some [x, y]))
    (hs : swapsWithSole [.Tuple [.Name x px, .Name y py] kt pt] (.Tuple [a, b] k2 pt2) pos.line X.env = pure false) :
    PS X (.Assign [.Tuple [.Name x px, .Name y py] kt pt] (.Tuple [a, b] k2 pt2) pos) (rdS S B M W (sPr2 i k fa fb)) :=
  PS.imp (ps_par hc hN hi hk hik hx hy (pa_cons ha (pa_cons hb pa_nil hs2) hs1) hw hs) fun E r H ⟨g, m, j, P, Ep, ok, hf, q, xo⟩ => by
    refine ⟨g, m, j, _, Ep, ok, hf, fun _ j1 g1 v1 H1 h1 l1 ok1 w1 => ⟨g1, m, _, _, Ep, ok1, h1, fun _ j2 g2 v2 H2 p l2 ok2 w2 => ⟨v1, v2, rfl, ?_⟩, xo.le l1.f⟩, xo⟩
    refine q _ _ _ p g2 _ H2 (l1.trans l2).f ⟨ok2.b, (ok2.s.setC (w1.le l2) fun hM => ok.s.apt (w := .fresh) (clOf_fresh hM w1)).setC w2 fun hM => apt_set (ok1.s.apt (w := .fresh) (clOf_fresh hM w2)) fun hMi => ?_⟩
    obtain ⟨a1, o1, rfl, e1⟩ := val_in (clOf_fresh hMi w1)
    obtain ⟨a2, rfl, n2, _⟩ := clOf_fresh hM w2
    intro z
    cases z
    rw [n2] at e1; cases e1
theorem s_pr3 (hc : X.calm = true) (hN : X.N.Nodup) (hi : X.N[i]? = some x) (hk : X.N[k]? = some y) (hl : X.N[l]? = some z) (hik : i ≠ k) (hil : i ≠ l) (hkl : k ≠ l) (hx : X.env.scope.names.lookup x = some .local) (hy : X.env.scope.names.lookup y = some .local) (hz : X.env.scope.names.lookup z = some .local)
    (ha : PE X a (rdE S B M W (clOf M i) fa)) (hb : PE X b (rdE S B M W (clOf M k) fb)) (hcc : PE X c (rdE S B M W (clOf M l) fc)) (hs1 : starEach [a, b, c] X.env = (false, eval a X.env) :: starEach [b, c] X.env) (hs2 : starEach [b, c] X.env = (false, eval b X.env) :: starEach [c] X.env) (hs3 : starEach [c] X.env = [(false, eval c X.env)])
    (hw : swappedStores [.Tuple [.Name x px, .Name y py, .Name z pz] kt pt] (.Tuple [a, b, c] k2 pt2) X.env = pure (some [x, y, z]))
    (hs : swapsWithSole [.Tuple [.Name x px, .Name y py, .Name z pz] kt pt] (.Tuple [a, b, c] k2 pt2) pos.line X.env = pure false) :
    PS X (.Assign [.Tuple [.Name x px, .Name y py, .Name z pz] kt pt] (.Tuple [a, b, c] k2 pt2) pos) (rdS S B M W (sPr3 i k l fa fb fc)) :=
  PS.imp (ps_par3 hc hN hi hk hl hik hil hkl hx hy hz (pa_cons ha (pa_cons hb (pa_cons hcc pa_nil hs3) hs2) hs1) hw hs) fun E r H ⟨g, m, j, P, Ep, ok, hf, q, xo⟩ => by
    refine ⟨g, m, j, _, Ep, ok, hf, fun _ j1 g1 v1 H1 h1 l1 ok1 w1 => ⟨g1, m, _, _, Ep, ok1, h1, fun _ j2 g2 v2 H2 h2 l2 ok2 w2 => ⟨g2, m, _, _, Ep, ok2, h2, fun _ j3 g3 v3 H3 p l3 ok3 w3 => ⟨v1, v2, v3, rfl, ?_⟩, xo.le (l1.trans l2).f⟩, xo.le l1.f⟩, xo⟩
    have d12 : M i = true → M k = true → v1 ≠ v2 := fun hMi hM => by
      obtain ⟨a1, o1, rfl, e1⟩ := val_in (clOf_fresh hMi w1)
      obtain ⟨a2, rfl, n2, _⟩ := clOf_fresh hM w2
      intro z
      cases z
      rw [n2] at e1; cases e1
    have d13 : M i = true → M l = true → v1 ≠ v3 := fun hMi hM => by
      obtain ⟨a1, o1, rfl, e1⟩ := val_in (clOf_fresh hMi (w1.le l2))
      obtain ⟨a2, rfl, n2, _⟩ := clOf_fresh hM w3
      intro z
      cases z
      rw [n2] at e1; cases e1
    have d23 : M k = true → M l = true → v2 ≠ v3 := fun hMi hM => by
      obtain ⟨a1, o1, rfl, e1⟩ := val_in (clOf_fresh hMi w2)
      obtain ⟨a2, rfl, n2, _⟩ := clOf_fresh hM w3
      intro z
      cases z
      rw [n2] at e1; cases e1
    refine q _ _ _ p g3 _ H3 ((l1.trans l2).trans l3).f ⟨ok3.b, ?_⟩
    refine ((ok3.s.setC ((w1.le l2).le l3) fun hM => ok.s.apt (w := .fresh) (clOf_fresh hM w1)).setC (w2.le l3) fun hM => apt_set (ok1.s.apt (w := .fresh) (clOf_fresh hM w2)) fun hMi => d12 hMi hM).setC w3 fun hM => ?_
    exact apt_set (apt_set (ok2.s.apt (w := .fresh) (clOf_fresh hM w3)) fun hMi => d13 hMi hM) fun hMk => d23 hMk hM
end
end Mp

/-! Mp9: list(range(..)), tuple(range(..)); xs.index(i); x = [.. for ..] at once; defs; the law's end. -/
namespace Mp
open PySem PySem.Spec L2
open PyProof.Rows hiding St
variable {J : Type}

def eLrg (fi : Iv J) (m : Sd) (j : J) (P : D → J → Prop) (E : XP J) : Prop := fi m j (fun ds j1 => ds.length ≤ LINE ∧ P (.lst ds) j1) E
def eTrg (fi : Iv J) (m : Sd) (j : J) (P : D → J → Prop) (E : XP J) : Prop := fi m j (fun ds j1 => ds.length ≤ LINE ∧ P (.tup ds) j1) E
instance {fi : Iv J} [h : MoA fi] : MoE (eLrg fi) := ⟨fun p q x => h.mo p (fun _ _ ⟨l, p⟩ => ⟨l, q _ _ p⟩) x⟩
instance {fi : Iv J} [h : MoA fi] : MoE (eTrg fi) := ⟨fun p q x => h.mo p (fun _ _ ⟨l, p⟩ => ⟨l, q _ _ p⟩) x⟩
section
variable {S : Js J} {B : Bs} {M : Nat → Bool} {W : WX} {X : Cx} {e a b c : Expr} {pos p q0 q1 : Pos} {fa fb : Ev J}
theorem rg_eq (lo hi : Int) : rngD lo (hi - lo).toNat = ((List.range (hi - lo).toNat).map fun i : Nat => lo + (i : Nat)).map D.int := by
  unfold rngD; rw [List.map_map]; rfl
theorem rgV_eq (lo hi : Int) : rgV lo hi = ((List.range (hi - lo).toNat).map fun i : Nat => lo + (i : Nat)).map V.int := by
  unfold rgV; rw [List.map_map]; rfl
theorem rg_rp {F : Hp} (lo hi : Int) : RpL S F (rngD lo (hi - lo).toNat) (rgV lo hi) := by
  rw [rg_eq, rgV_eq]; exact RpL.ints _
theorem rg_ok {lo hi : Int} (h1 : -LIM ≤ lo) (h2 : lo ≤ LIM) (h3 : -LIM ≤ hi) (h4 : hi ≤ LIM) (hl : (rngD lo (hi - lo).toNat).length ≤ LINE) : RgOk lo hi := by
  rw [rngD_length] at hl
  have e1 : LIM = 2 ^ 61 := rfl
  have e2 : LINE = 1000000 := rfl
  rw [e1] at h1 h2 h3 h4
  rw [e2] at hl
  exact ⟨by omega, by omega, by omega, by omega, by omega⟩
theorem lrg_end {g1 g : Gh} {r : St} {H1 : Hp} {m : Sd} {j1 : J} {lo hi : Int} {Q : VK} (l1 : Le g g1) (ok1 : Ok S B g1 M r H1 m j1)
    (q : ∀ g' v H', Le g g' → Ok S B g' M r H' m j1 → Val S g g' .fresh (.lst (rngD lo (hi - lo).toNat)) v → Q v H') : ∀ p, H1 p = none → Q (.ref p) (upd H1 p (.lst (rgV lo hi))) := fun p hp => by
  obtain ⟨n1, n2, n3, n4⟩ := ok1.b.hn hp
  exact q (g1.see p (.lst (rgV lo hi))) _ _ (l1.trans (Le.see n2)) ⟨ok1.b.see _ hp, ok1.s.le (Le.see n2)⟩ ⟨p, rfl, l1.g.free n2, n1, .inl ⟨_, _, rfl, upd_same, rg_rp lo hi⟩⟩
theorem trg_end {g1 g : Gh} {r : St} {H1 : Hp} {m : Sd} {j1 : J} {lo hi : Int} {Q : VK} (l1 : Le g g1) (ok1 : Ok S B g1 M r H1 m j1)
    (q : ∀ g' v H', Le g g' → Ok S B g' M r H' m j1 → Val S g g' .clean (.tup (rngD lo (hi - lo).toNat)) v → Q v H') : NewT H1 (rgV lo hi) Q := fun p o hp hd => by
  obtain ⟨n1, n2, n3, n4⟩ := ok1.b.hn hp
  exact q (g1.frz p (.frz o (.tup (rgV lo hi)))) _ _ (l1.trans (Le.frz ok1.b.fg n2)) ⟨ok1.b.frz _ hp, ok1.s.le (Le.frz ok1.b.fg n2)⟩ (Rp.tup (.inl ⟨o, upd_same, hd⟩) (rg_rp lo hi))
theorem e_lrg1 (hc : X.calm = true) (hgl : Gl X "list") (hml : X.mg "list" = none) (hg : Gl X "range") (hm : X.mg "range" = none) (ha : PE X a (rdE S B M W .mix fa)) (hs : starEach [a] X.env = [(false, eval a X.env)])
    (hs2 : starEach [.Call (.Name "range" p) [a] [] pos] X.env = [(false, eval (.Call (.Name "range" p) [a] [] pos) X.env)]) :
    PE X (.Call (.Name "list" q0) [.Call (.Name "range" p) [a] [] pos] [] q1) (rdE S B M W .fresh (eLrg (iRng1 fa))) :=
  PE.imp (pe_listRg hc hgl hml (prg_1 hg hm ha hs) hs2) fun r H Q ⟨g, m, j, P, E, ok, hf, q, xo⟩ => by
    refine ⟨g, m, j, _, E, ok, hf, fun d j1 g1 v H1 hh l1 ok1 w => ?_, xo⟩
    obtain ⟨n, rfl, c1, c2, hl, p⟩ := hh
    have e0 : n.toNat = (n - 0).toNat := by omega
    rw [e0] at hl p
    have hL : LIM = 2 ^ 61 := rfl
    exact ⟨n, int_of w, rg_ok (by omega) (by omega) c1 c2 hl, lrg_end l1 ok1 fun g' v H' => q _ _ g' v H' p⟩
theorem e_lrg2 (hc : X.calm = true) (hgl : Gl X "list") (hml : X.mg "list" = none) (hg : Gl X "range") (hm : X.mg "range" = none) (ha : PE X a (rdE S B M W .mix fa)) (hb : PE X b (rdE S B M W .mix fb)) (hs : starEach [a, b] X.env = (false, eval a X.env) :: starEach [b] X.env) (hs1 : starEach [b] X.env = [(false, eval b X.env)])
    (hp : (backTo pos (starEach [b] X.env)).any (·.1) = false) (hs2 : starEach [.Call (.Name "range" p) [a, b] [] pos] X.env = [(false, eval (.Call (.Name "range" p) [a, b] [] pos) X.env)]) :
    PE X (.Call (.Name "list" q0) [.Call (.Name "range" p) [a, b] [] pos] [] q1) (rdE S B M W .fresh (eLrg (iRng2 fa fb))) :=
  PE.imp (pe_listRg hc hgl hml (prg_2 hg hm ha hb hs hs1 hp) hs2) fun r H Q ⟨g, m, j, P, E, ok, hf, q, xo⟩ => by
    refine ⟨g, m, j, _, E, ok, hf, fun d j1 g1 v H1 h1 l1 ok1 w => ⟨g1, m, _, _, E, ok1, h1, fun d2 j2 g2 v2 H2 hh l2 ok2 w2 => ?_, xo.le l1.f⟩, xo⟩
    obtain ⟨lo, hi, rfl, rfl, c1, c2, c3, c4, hl, p⟩ := hh
    exact ⟨lo, hi, int_of w, int_of w2, rg_ok c1 c2 c3 c4 hl, lrg_end (l1.trans l2) ok2 fun g' v H' => q _ _ g' v H' p⟩
theorem e_trg1 (hc : X.calm = true) (hgl : Gl X "tuple") (hml : X.mg "tuple" = none) (hg : Gl X "range") (hm : X.mg "range" = none) (ha : PE X a (rdE S B M W .mix fa)) (hs : starEach [a] X.env = [(false, eval a X.env)])
    (hs2 : starEach [.Call (.Name "range" p) [a] [] pos] X.env = [(false, eval (.Call (.Name "range" p) [a] [] pos) X.env)]) :
    PE X (.Call (.Name "tuple" q0) [.Call (.Name "range" p) [a] [] pos] [] q1) (rdE S B M W .clean (eTrg (iRng1 fa))) :=
  PE.imp (pe_tupRgF hc hgl hml (prg_1 hg hm ha hs) hs2) fun r H Q ⟨g, m, j, P, E, ok, hf, q, xo⟩ => by
    refine ⟨g, m, j, _, E, ok, hf, fun d j1 g1 v H1 hh l1 ok1 w => ?_, xo⟩
    obtain ⟨n, rfl, c1, c2, hl, p⟩ := hh
    have e0 : n.toNat = (n - 0).toNat := by omega
    rw [e0] at hl p
    have hL : LIM = 2 ^ 61 := rfl
    exact ⟨n, int_of w, rg_ok (by omega) (by omega) c1 c2 hl, trg_end l1 ok1 fun g' v H' => q _ _ g' v H' p⟩
theorem e_trg2 (hc : X.calm = true) (hgl : Gl X "tuple") (hml : X.mg "tuple" = none) (hg : Gl X "range") (hm : X.mg "range" = none) (ha : PE X a (rdE S B M W .mix fa)) (hb : PE X b (rdE S B M W .mix fb)) (hs : starEach [a, b] X.env = (false, eval a X.env) :: starEach [b] X.env) (hs1 : starEach [b] X.env = [(false, eval b X.env)])
    (hp : (backTo pos (starEach [b] X.env)).any (·.1) = false) (hs2 : starEach [.Call (.Name "range" p) [a, b] [] pos] X.env = [(false, eval (.Call (.Name "range" p) [a, b] [] pos) X.env)]) :
    PE X (.Call (.Name "tuple" q0) [.Call (.Name "range" p) [a, b] [] pos] [] q1) (rdE S B M W .clean (eTrg (iRng2 fa fb))) :=
  PE.imp (pe_tupRgF hc hgl hml (prg_2 hg hm ha hb hs hs1 hp) hs2) fun r H Q ⟨g, m, j, P, E, ok, hf, q, xo⟩ => by
    refine ⟨g, m, j, _, E, ok, hf, fun d j1 g1 v H1 h1 l1 ok1 w => ⟨g1, m, _, _, E, ok1, h1, fun d2 j2 g2 v2 H2 hh l2 ok2 w2 => ?_, xo.le l1.f⟩, xo⟩
    obtain ⟨lo, hi, rfl, rfl, c1, c2, c3, c4, hl, p⟩ := hh
    exact ⟨lo, hi, int_of w, int_of w2, rg_ok c1 c2 c3 c4 hl, trg_end (l1.trans l2) ok2 fun g' v H' => q _ _ g' v H' p⟩
end

/-! ### xs.index(i) -/
def idxL (ns : List Int) (k : Int) : Option D := match ns.idxOf? k with | some n => some (.int (n : Nat)) | none => none
def indexD : D → D → Option D
  | .lst xs, .int k => match ints? xs with | some ns => idxL ns k | none => none
  | .tup xs, .int k => match ints? xs with | some ns => idxL ns k | none => none
  | _, _ => none
theorem idxOf?_at : ∀ {ns : List Int} {k : Int} {n : Nat}, ns.idxOf? k = some n → ns[n]? = some k ∧ ∀ m z, m < n → ns[m]? = some z → z ≠ k
  | [], k, n, h => by simp at h
  | a :: ns, k, n, h => by
    rw [List.idxOf?_cons] at h
    by_cases c : a = k
    · subst c
      simp at h
      subst h
      exact ⟨rfl, fun m z hm => by omega⟩
    · have c' : (a == k) = false := by simpa using c
      rw [c'] at h
      simp only [Bool.false_eq_true, if_false, Option.map_eq_some_iff] at h
      obtain ⟨n', h1, rfl⟩ := h
      obtain ⟨h2, h3⟩ := idxOf?_at h1
      refine ⟨by simpa using h2, fun m z hm hz => ?_⟩
      cases m with
      | zero => simp at hz; subst hz; exact c
      | succ m => exact h3 m z (by omega) (by simpa using hz)
section
variable {S : Js J} {B : Bs} {M : Nat → Bool} {W : WX} {X : Cx} {e o : Expr} {pos p ap : Pos} {fo fe : Ev J} {ci : Bool}
theorem flat_ints (ns : List Int) : (ns.map V.int).all flatV = true := by
  rw [List.all_map]; exact List.all_eq_true.mpr fun _ _ => rfl
theorem idx_facts {ns : List Int} {k : Int} {n : Nat} (h : ns.idxOf? k = some n) : (ns.map V.int)[n]? = some (.int k) ∧ eqV (.int k) (.int k) = true ∧ ∀ (m : Nat) (z' : V), m < n → (ns.map V.int)[m]? = some z' → eqV z' (.int k) = false := by
  obtain ⟨h1, h2⟩ := idxOf?_at h
  refine ⟨by rw [List.getElem?_map, h1]; rfl, by show (k == k) = true; simp, fun m z' hm hz => ?_⟩
  rw [List.getElem?_map, Option.map_eq_some_iff] at hz
  obtain ⟨z, hz1, rfl⟩ := hz
  show (z == k) = false
  simpa using h2 m z hm hz1
/-- o.m(e) of a list or a tuple -/
def tBMS (K : PySem.W.Frag) (r1 r2 : V → List V → Hp → VK → Prop) (to : TE) (t : TA) : TE := fun σ H Q => to σ H fun x H1 =>
  (tyV K "list" x H1 ∧ t σ H1 fun xs H2 => r1 x xs H2 Q) ∨ ((∃ a vs, x = .ref a ∧ SqF K H1 a vs) ∧ t σ H1 fun xs H2 => r2 x xs H2 Q)
theorem pe_bmS {es : List Expr} {t : TA} {to : TE} {name : Str} {apos cpos : Pos} {id1 id2 : String} {r1 r2 : V → List V → Hp → VK → Prop} (slot1 : Slot "list" name id1) (hty1 : typeOf (.builtin id1) = pure (.type "method_descriptor")) (hm1 : MtR X id1 r1)
    (slot2 : Slot "tuple" name id2) (hty2 : typeOf (.builtin id2) = pure (.type "method_descriptor")) (hm2 : MtR X id2 r2) (ho : PE X o to) (ha : PA X (e :: es) t)
    (hbase : attributeBase o name X.env (eval o X.env) = eval o X.env)
    (hfew : ((backTo cpos (starEach (e :: es) X.env)).all (fun x => !x.1) && (backToKw cpos (keywordEach [] X.env)).all (fun x => x.1.isSome)
      && decide ((e :: es).length + ([] : List Keyword).length + (if ([] : List Keyword).isEmpty then 0 else 1) < 30)) = true)
    (hline : (apos.endLine == cpos.line) = true) (hs : starEach (e :: es) X.env = (false, eval e X.env) :: starEach es X.env) (hplain : (backTo cpos (starEach es X.env)).any (·.1) = false) :
    PE X (.Call (.Attribute o name apos) (e :: es) [] cpos) (tBMS X.K r1 r2 to t) := by
  refine ⟨fun pins s σ H Q I h => ?_⟩
  refine wpAny_Call_method_late hbase hfew hline rfl (thn (ho.run pins s σ H _ I h) fun v s1 ⟨x, H1, I1, rr1, hh⟩ => ?_)
  rcases hh with ⟨ty, q1⟩ | ⟨ty, q1⟩
  · obtain ⟨h1, h2⟩ := tyV_is I1 rr1 ty
    refine ⟨"list", id1, PySem.F.plainAttrs_list, slot1, hty1, h1, h2, ?_⟩
    have hA := ha.run cpos pins s1 σ H1 _ I1 q1
    rw [hs] at hA ⊢
    refine Calls.callWith_builtin (by show (false || (backTo cpos (starEach es X.env)).any (·.1)) = false; rw [hplain] <;> rfl) (Calls.evalArgs_plain ?_)
    exact thn hA fun us s2 ⟨vs, H2, I2, r2, q2⟩ => hm1 pins s2 σ H2 x vs v us Q I2 rr1 r2 q2
  · have tyis : s1.TypeIs v "tuple" ∧ ∀ a, v = .ref a → ∃ ob, s1.heap.get? a = some ob ∧ ob.dict = none := by
      obtain ⟨a, vs, rfl, hq⟩ := ty
      cases rr1
      obtain ⟨its, _, pl, _⟩ := I1.tuple hq.t
      refine ⟨pl.typeIs, fun b e => ?_⟩
      cases e
      rcases hq with ⟨ob, h1, h2⟩ | ⟨ob, its, n, h1, _, h2, _⟩
      · exact ⟨ob, (I1.hok _ _ h1).1, h2⟩
      · exact ⟨ob, I1.kIn _ _ h1, h2⟩
    obtain ⟨h1, h2⟩ := tyis
    refine ⟨"tuple", id2, PySem.F.plainAttrs_tuple, slot2, hty2, h1, h2, ?_⟩
    have hA := ha.run cpos pins s1 σ H1 _ I1 q1
    rw [hs] at hA ⊢
    refine Calls.callWith_builtin (by show (false || (backTo cpos (starEach es X.env)).any (·.1)) = false; rw [hplain] <;> rfl) (Calls.evalArgs_plain ?_)
    exact thn hA fun us s2 ⟨vs, H2, I2, r2, q2⟩ => hm2 pins s2 σ H2 x vs v us Q I2 rr1 r2 q2
/-- the receiver's type is asked ahead of the argument: the closure says that it is a list or a tuple -/
def isSq : D → Prop
  | .lst _ => True
  | .tup _ => True
  | _ => False
def eMt (φ : D → D → Option D) (fo fe : Ev J) (m : Sd) (j : J) (P : D → J → Prop) (E : XP J) : Prop := fo m j (fun x j1 => isSq x ∧ fe m j1 (fun y j2 => ∃ z, φ x y = some z ∧ P z j2) E) E
instance {φ : D → D → Option D} {fo fe : Ev J} [h1 : MoE fo] [h2 : MoE fe] : MoE (eMt φ fo fe) := ⟨fun p q x => h1.mo p (fun _ _ ⟨l, p⟩ => ⟨l, h2.mo p (fun _ _ ⟨z, e, p⟩ => ⟨z, e, q _ _ p⟩) x⟩) x⟩
theorem e_index (hK : X.K = S.K) (ho : PE X o (rdE S B M W (ofB ci) fo)) (he : PE X e (rdE S B M W .mix fe)) (hl : (ap.endLine == p.line) = true) (hs : starEach [e] X.env = [(false, eval e X.env)]) (hb : attributeBase o "index" X.env (eval o X.env) = eval o X.env)
    (hf : ((backTo p (starEach [e] X.env)).all (fun x => !x.1) && (backToKw p (keywordEach [] X.env)).all (fun x => x.1.isSome)
      && decide (([e] : List Expr).length + ([] : List Keyword).length + (if ([] : List Keyword).isEmpty then 0 else 1) < 30)) = true) :
    PE X (.Call (.Attribute o "index" ap) [e] [] p) (rdE S B M W .clean (eMt indexD fo fe)) :=
  PE.imp (pe_bmS PySem.F.slot_list_index PySem.F.type_list_index mt_index PySem.F.slot_tuple_index PySem.F.type_tuple_index mt_indexT ho (pa_cons he pa_nil hs) hb hf hl hs rfl) fun R H Q ⟨g, m, j, P, E, ok, hf, q, xo⟩ => by
    refine ⟨g, m, j, _, E, ok, hf, fun x j1 g1 v H1 hh l1 ok1 w => ?_, xo⟩
    obtain ⟨hx, h2⟩ := hh
    have key : ∀ {xs : List D} {y z : D}, (match ints? xs with | some ns => (match y with | .int k => idxL ns k | _ => none) | none => none) = some z → ∃ (ns : List Int) (k : Int) (n : Nat), xs = ns.map D.int ∧ y = .int k ∧ z = .int (n : Nat) ∧ ns.idxOf? k = some n := fun {xs y z} h3 => by
      split at h3
      · rename_i ns hn
        split at h3
        · rename_i k
          unfold idxL at h3
          split at h3
          · rename_i n hn2
            cases h3
            exact ⟨ns, k, n, ints?_some hn, rfl, rfl, hn2⟩
          · cases h3
        · cases h3
      · cases h3
    cases x with
    | lst xs =>
      obtain ⟨a, vs, rfl, ha, rl⟩ := lst_of (w.mix ok1.b.fg)
      refine .inl ⟨.inl ⟨rfl, _, .of (ok1.b.gh _ _ ha)⟩, g1, m, _, _, E, ok1, h2, fun y j2 g2 v2 H2 hz l2 ok2 w2 => ?_, xo.le l1.f⟩
      obtain ⟨z, h3, p⟩ := hz
      obtain ⟨ns, k, n, rfl, rfl, rfl, hn2⟩ := key (xs := xs) (y := y) (z := z) (by
        cases y <;> first | exact h3 | (unfold indexD at h3; cases h3))
      have hv := RpL.of_ints rl
      subst hv
      obtain ⟨f1, f2, f3⟩ := idx_facts hn2
      exact ⟨a, _, .int k, n, .int k, rfl, by rw [int_of w2], .of (ok2.b.gh _ _ (l2.g _ _ ha)), rfl, flat_ints ns, f1, f2, f3, q _ _ g2 _ H2 p (l1.trans l2) ok2 (.int _)⟩
    | tup xs =>
      obtain ⟨a, vs, rfl, ha, rl⟩ := tup_of (w.mix ok1.b.fg)
      refine .inr ⟨⟨a, _, rfl, by rw [hK]; exact ha.same ok1.b.gh⟩, g1, m, _, _, E, ok1, h2, fun y j2 g2 v2 H2 hz l2 ok2 w2 => ?_, xo.le l1.f⟩
      obtain ⟨z, h3, p⟩ := hz
      obtain ⟨ns, k, n, rfl, rfl, rfl, hn2⟩ := key (xs := xs) (y := y) (z := z) (by
        cases y <;> first | exact h3 | (unfold indexD at h3; cases h3))
      have hv := RpL.of_ints rl
      subst hv
      obtain ⟨f1, f2, f3⟩ := idx_facts hn2
      exact ⟨a, _, .int k, n, .int k, rfl, by rw [int_of w2], by rw [hK]; exact (ha.same (l2.g.trans ok2.b.gh)).t, rfl, flat_ints ns, f1, f2, f3, q _ _ g2 _ H2 p (l1.trans l2) ok2 (.int _)⟩
    | _ => exact hx.elim
end
end Mp

/-! MpA: x = [.. for ..] at once; defs by their closures; the law's end. -/
namespace Mp
open PySem PySem.Spec L2
open PyProof.Rows hiding St
variable {J : Type}
theorem rd_ice {S : Js J} {B : Bs} {M : Nat → Bool} {W : WX} {f : Ev J} {r : St} {H : Hp} {Q : VK} (h : rdE S B M W .clean f r H Q) : rdE S B M W .fresh f r H Q := by
  obtain ⟨g, m, j, P, E, ok, hf, q, xo⟩ := h
  refine ⟨g, m, j, P, E, ok, hf, fun d j' g' v H' p l ok' w => ?_, xo⟩
  obtain ⟨a, rfl, n, o⟩ := w
  exact q d j' (g'.ice a) _ H' p (l.ice n o.1) ⟨ok'.b.ice o.1, ok.s.ice l n o.1⟩ o.ice
section
variable {S : Js J} {B : Bs} {M : Nat → Bool} {W : WX} {X : Cx} {elt tg iter : Expr} {ifs : List Expr} {scope : Scope} {own : List (Str × Nat)} {pos spos py : Pos} {fi : Iv J} {γ : Gv} {ft : Tv J} {fe : Ev J} {ks : List Nat} {c w : Bool} {i : Nat} {y : Str}
theorem s_setLcO (hM : M i = true) (hc : X.calm = true) (hN : X.N.Nodup) (hy : X.N[i]? = some y) (hyl : X.env.scope.names.lookup y = some .local) (hsw : swapsWith (.ListComp elt [⟨tg, iter, ifs, 0⟩] scope pos) (some (.Name y py)) spos.line X.env = pure true)
    (hi : PI X tg iter (rdI S B M W c w fi)) (ok : BlkOk X.N X.env.scope scope own) (hks : ∀ k ∈ ks, k ∈ own.map (·.2))
    (hg : ∀ (s : Shared) (H : Hp) (C : Addr) (cl : List (Str × Addr)) (fp : List Addr), PG (X.blk s H scope (compEnvC scope cl C X.env) fp) tg (rdG S B M w ks γ)) (ht : ∀ (s : Shared) (H : Hp) (C : Addr) (cl : List (Str × Addr)) (fp : List Addr), PTs (X.blk s H scope (compEnvC scope cl C X.env) fp) ifs (rdT S B M W0 ft))
    (he : ∀ (s : Shared) (H : Hp) (C : Addr) (cl : List (Str × Addr)) (fp : List Addr), PE (X.blk s H scope (compEnvC scope cl C X.env) fp) elt (rdE S B M W0 .clean fe)) (hs : ∀ x, foldedSetIterable iter X.env x = pure x) :
    PS X (.Assign [.Name y py] (.ListComp elt [⟨tg, iter, ifs, 0⟩] scope pos) spos) (rdS S B M W (sSet i (eComp (own.map (·.2)) fi γ ft fe))) :=
  PS.imp (ps_setLc hc hN hy hyl hsw hi ok hg ht he hs) fun E r H h => sSetO_rd hM (fun _ _ _ z => lc_rd hks z) h
theorem s_setLc (hM : M i = false) (hc : X.calm = true) (hN : X.N.Nodup) (hy : X.N[i]? = some y) (hyl : X.env.scope.names.lookup y = some .local) (hsw : swapsWith (.ListComp elt [⟨tg, iter, ifs, 0⟩] scope pos) (some (.Name y py)) spos.line X.env = pure true)
    (hi : PI X tg iter (rdI S B M W c w fi)) (ok : BlkOk X.N X.env.scope scope own) (hks : ∀ k ∈ ks, k ∈ own.map (·.2))
    (hg : ∀ (s : Shared) (H : Hp) (C : Addr) (cl : List (Str × Addr)) (fp : List Addr), PG (X.blk s H scope (compEnvC scope cl C X.env) fp) tg (rdG S B M w ks γ)) (ht : ∀ (s : Shared) (H : Hp) (C : Addr) (cl : List (Str × Addr)) (fp : List Addr), PTs (X.blk s H scope (compEnvC scope cl C X.env) fp) ifs (rdT S B M W0 ft))
    (he : ∀ (s : Shared) (H : Hp) (C : Addr) (cl : List (Str × Addr)) (fp : List Addr), PE (X.blk s H scope (compEnvC scope cl C X.env) fp) elt (rdE S B M W0 .clean fe)) (hs : ∀ x, foldedSetIterable iter X.env x = pure x) :
    PS X (.Assign [.Name y py] (.ListComp elt [⟨tg, iter, ifs, 0⟩] scope pos) spos) (rdS S B M W (sSet i (eComp (own.map (·.2)) fi γ ft fe))) :=
  PS.imp (ps_setLc hc hN hy hyl hsw hi ok hg ht he hs) fun E r H h => sSet_rd hM (fun _ _ _ z => lc_rd hks (rd_ice z)) h
end

/-! ### a def by its closure -/
def startD (k : Nat) (ds : List D) : Sd := ds.map some ++ List.replicate (k - ds.length) none
def endF (P : D → J → Prop) : Fl → Sd → J → Prop
  | .ret d, _, j => P d j
  | .next, _, j => P .non j
  | .brk, _, _ => False
  | .cnt, _, _ => False
def runF (k n : Nat) (f : Sv J) (ds : List D) (j : J) (P : D → J → Prop) (E : Ex → J → Prop) : Prop := ds.length = n ∧ f (startD k ds) j (endF P) (fun e _ j' => E e j')
theorem endF_mo {P P' : D → J → Prop} (q : ∀ d j, P d j → P' d j) : ∀ l m j, endF P l m j → endF P' l m j
  | .ret _, _, _, h => q _ _ h
  | .next, _, _, h => q _ _ h
instance {k n : Nat} {f : Sv J} [h : MoS f] : MoF (runF k n f) := ⟨fun ⟨l, p⟩ q x => ⟨l, h.mo p (endF_mo q) fun _ _ _ => x _ _⟩⟩
theorem runF_len {k n : Nat} {f : Sv J} (ds : List D) (j : J) (P : D → J → Prop) (E : Ex → J → Prop) (h : runF k n f ds j P E) : ds.length = n := h.1
section
variable {S : Js J}
theorem slots_start {F G : Hp} {A : Addr → Prop} {N : List Str} {ds : List D} {vs : List V} {M : Nat → Bool} (hM : ∀ i, i < ds.length → M i = false) (h : RpL S F ds vs) : Slots S ⟨F, G, A⟩ M (start N vs) (startD N.length ds) := by
  have get : ∀ {i : Nat} {d : D}, (startD N.length ds)[i]? = some (some d) → ds[i]? = some d := fun {i d} e => by
    unfold startD at e
    by_cases hi : i < (ds.map some).length
    · rw [List.getElem?_append_left hi, List.getElem?_map, Option.map_eq_some_iff] at e
      obtain ⟨d', h1, h2⟩ := e
      cases h2
      exact h1
    · rw [List.getElem?_append_right (by omega), List.getElem?_replicate] at e
      split at e <;> cases e
  have lt : ∀ {i : Nat} {d : D}, ds[i]? = some d → i < ds.length := fun e => (List.getElem?_eq_some_iff.mp e).1
  refine ⟨?_, fun i d e _ => ?_, fun i d e m => ?_, fun i k a d d' e _ m _ _ _ => ?_⟩
  · unfold L2.start startD
    rw [List.length_append, List.length_append, List.length_map, List.length_map, List.length_replicate, List.length_replicate, h.length]
  · obtain ⟨v, h1, h2⟩ := h.get (get e)
    refine ⟨v, ?_, h2⟩
    unfold L2.start
    rw [List.getElem?_append_left (by rw [List.length_map]; exact (List.getElem?_eq_some_iff.mp h1).1), List.getElem?_map, h1]
    rfl
  · rw [hM i (lt (get e))] at m; cases m
  · rw [hM i (lt (get e))] at m; cases m
/-- what leaves a def -/
def WD (E : XK) : WX := fun cls d _ H => E cls d H
theorem run_end {F H : Hp} {A : Addr → Prop} {j : J} {ds : List D} {vs : List V} {N : List Str} {n : Nat} {f : Sv J} {M : Nat → Bool} {Q : VK} {E : XK} {P : D → J → Prop} {Ep : Ex → J → Prop} (fh : Same F H) (fa : ∀ b o, F b = some o → ¬ A b) (jr : S.rep j F A H) (sm : ∃ o u, H sysModules = some (.frz o u))
    (hM : ∀ i, i < n → M i = false) (rp : RpL S F ds vs) (hf : runF N.length n f ds j P Ep) (q : ∀ d j' F' A' H' v, P d j' → FPost S F A H F' A' H' j' → Rp S F' d v → Q v H') (x : ∀ e j' F' A' H' cls dx, Ep e j' → FPost S F A H F' A' H' j' → ExR S F' e cls dx → E cls dx H') :
    rdS S ⟨F, H, A⟩ M (WD E) f { nx := fun _ H' => Q .non H', rt := Q } (start N vs) H := by
  obtain ⟨hl, hf⟩ := hf
  have ok0 : Ok S ⟨F, H, A⟩ ⟨F, F, A⟩ M (start N vs) H (startD N.length ds) j :=
    ⟨⟨Same.refl _, fh, fa, jr, Same.refl _, fun b o e => .inl e, fun b z => .inl z, fun b o e _ => e, fun b e => e, sm⟩, slots_start (fun i hi => hM i (hl ▸ hi)) rp⟩
  have post : ∀ {g' : Gh} {H' : Hp} {jj : J}, OkB S ⟨F, H, A⟩ g' H' jj → FPost S F A H g'.G g'.A H' jj := fun {g' H' jj} ok =>
    ⟨ok.f0.trans ok.fg, ok.gh, ok.ga, S.frame ok.jr ok.fg fun _ _ => rfl, ok.h0, ok.g0, ok.a0, ok.h1, ok.sm⟩
  refine ⟨_, _, j, _, _, ok0, hf, fun fl m' j' p => ?_, fun e m' j' g' r' H' cls dx pe _ ok' ex => x e j' _ _ H' cls dx pe (post ok'.b) (ex.mono ok'.b.fg)⟩
  cases fl with
  | ret d => exact fun g' H' v ok rv => q _ _ _ _ H' v p (post ok) rv
  | next => exact fun g' r' H' _ ok => q _ _ _ _ H' .non p (post ok.b) .non
  | brk => exact p.elim
  | cnt => exact p.elim
end
/-- the context of a def's body -/
abbrev cxE (P : Program) (w : World) (K : PySem.W.Frag) (mg : Str → Option Value) (base : Heap) (N : List Str) (qual : Str) (scope : Scope) (f : Addr) (cd : Value) (A : Around) (outer : List Env) (s : Shared) (H : Hp) (E : XK) : Cx :=
  cxOf (L2.CX P w) P w K mg base N qual scope f cd A outer s H E
/-- .. where nothing that is raised leaves it -/
abbrev cxF (P : Program) (w : World) (K : PySem.W.Frag) (mg : Str → Option Value) (base : Heap) (N : List Str) (qual : Str) (scope : Scope) (f : Addr) (cd : Value) (A : Around) (outer : List Env) (s : Shared) (H : Hp) (E : XK) : Cx :=
  (cxOf CX0 P w K mg base N qual scope f cd A outer s H E).nox
section
variable {P : Program} {w : World} {K : PySem.W.Frag} {mg : Str → Option Value} {base : Heap} {S : Js J}
theorem takesE {N : List Str} {qual : Str} {scope : Scope} {f : Addr} {cd : Value} {A : Around} {outer : List Env} {s : Shared} {H : Hp} {E : XK} : Takes (cxE P w K mg base N qual scope f cd A outer s H E) (WD E) := takes_of rfl rfl rfl rfl
theorem ownE {N : List Str} {qual : Str} {scope : Scope} {f : Addr} {cd : Value} {A : Around} {outer : List Env} {s : Shared} {H : Hp} {E : XK} : PassesOwn (model P w) (cxE P w K mg base N qual scope f cd A outer s H E).A (cxE P w K mg base N qual scope f cd A outer s H E).env (cxE P w K mg base N qual scope f cd A outer s H E).xe := passes_of rfl
theorem FnG.ofN {k : Nat} {f : Addr} {fd : FuncData} {ps : List Str} {sp : Sp} (F : FnG P w K mg base CX0 k f fd ps sp) : FnG P w K mg base (L2.CX P w) k f fd ps sp :=
  ⟨F.len, fun A outer s H args us vs Q E hr hg he hb hv hs => codeAny_mono (F.run A outer s H args us vs Q E hr hg he hb hv hs) fun r s' h => by
    cases r with
    | error e => exact False.elim h
    | ok fl => cases fl <;> exact h⟩
theorem fnG_sp {x qual : Str} {st : Stmt} {f : Addr} {fd : FuncData} {N ps : List Str} {k : Nat} {sp : Sp} (F : L2.Fun K x qual st f fd) (Sc : FnScope N ps (defScope st)) (len : ∀ vs H Q E, sp vs H Q E → vs.length = ps.length)
    (hbody : ∀ (cdv : Value) (A : Around) (outer : List Env) (s : Shared) (H : Hp) (vs : List V) (Q : VK) (E : XK), Room k (A.deeper (envOfC qual (defScope st) s.heap.objs.size f cdv)) → (A.deeper (envOfC qual (defScope st) s.heap.objs.size f cdv)).guards = some [] → sp vs H Q E →
      ∃ t, PSs (cxF P w K mg base N qual (defScope st) f cdv A outer s H E) (defBody st) t ∧ t { nx := fun _ H' => Q .non H', rt := Q } (start N vs) H) : FnG P w K mg base CX0 (k + 1) f fd ps sp := by
  obtain ⟨oc, od, kV, doc, pm, an, cdv, ct, osl, rfl, lk, hcd⟩ := F.ex
  refine fnG_of lk hcd Sc len fun A outer s H vs Q E hr hgd hsp => ?_
  obtain ⟨t, h, q⟩ := hbody cdv A outer s H vs Q E hr hgd hsp
  exact ⟨t, h.nox, q⟩
theorem fnG_D {x qual : Str} {st : Stmt} {f : Addr} {fd : FuncData} {N ps : List Str} {n k : Nat} {M : Nat → Bool} {fs : Sv J} (F : L2.Fun K x qual st f fd) (Sc : FnScope N ps (defScope st)) (hn : ps.length = n) (hM : ∀ i, i < n → M i = false)
    (hbody : ∀ (cdv : Value) (A : Around) (outer : List Env) (s : Shared) (H : Hp) (E : XK) (B : Bs), Room k (A.deeper (envOfC qual (defScope st) s.heap.objs.size f cdv)) → (A.deeper (envOfC qual (defScope st) s.heap.objs.size f cdv)).guards = some [] →
      PSs (cxE P w K mg base N qual (defScope st) f cdv A outer s H E) (defBody st) (rdS S B M (WD E) fs)) : FnG P w K mg base (L2.CX P w) (k + 1) f fd ps (spF S n (runF N.length n fs)) := by
  obtain ⟨oc, od, kV, doc, pm, an, cdv, ct, osl, rfl, lk, hcd⟩ := F.ex
  refine fnG_of lk hcd Sc (fun vs H Q E h => ?_) fun A outer s H vs Q E hr hgd h => ?_
  · obtain ⟨_, _, _, ds, _, _, _, _, _, _, rp, hl, _⟩ := h
    rw [← rp.length, hl, hn]
  · obtain ⟨F0, A0, j, ds, P, Ep, fh, fa, jr, sm, rp, hl, hf, q, xx⟩ := h
    exact ⟨_, hbody cdv A outer s H E ⟨F0, H, A0⟩ hr hgd, run_end fh fa jr sm hM rp hf q xx⟩
end
end Mp

/-! MpB: the law's end. -/
namespace Mp
open PySem PySem.Spec L2
open PyProof.Rows hiding St
variable {J : Type}
/-- what a law is promised -/
def spLaw (K : PySem.W.Frag) : Sp := fun vs H Q _ => ∃ (a : Addr) (ns : List Int), vs = [.ref a] ∧ ns.length ≤ 63 ∧ (∀ z ∈ ns, Builtin.Int.intBits z ≤ 1048576) ∧ SqL K H a (ns.map V.int) ∧ (∃ o u, H sysModules = some (.frz o u)) ∧ ∀ H', Q (.bl true) H'
theorem law_callG {P : Program} {w : World} {K : PySem.W.Frag} {mg mb : Str → Option Value} {k : Nat} {fa a : Addr} {fd : FuncData} {x : Str} {s₁ : Shared} {vs : List Value} {ns : List Int}
    (KX : K.In s₁.heap) (hns : s₁.heap.Ns mainGlobals mg) (hb : s₁.heap.Ns builtinsNs mb) (hbb : ∀ x : Str, x ≠ "__name__" → mb x = bootBuiltins x) (hlim : s₁.heap.NoLimit) (hg : s₁.gens = #[]) (hsm : ∃ mm, s₁.heap.Ns sysModules mm) (hKs : K.lookup sysModules = none)
    (ha : s₁.heap.get? a = some { cls := .type "list", data := .seq vs.toArray }) (hi : IntsAre vs ns) (hl : ns.length ≤ 63) (hbits : ∀ z ∈ ns, Builtin.Int.intBits z ≤ 1048576) (hr : Room k callerA)
    (F : ∀ base : Heap, K.In base → base.Ns mainGlobals mg → FnG P w K mg base CX0 k fa fd [x] (spLaw K)) (hbind : ∀ (s : Shared) (u : Value), BindsTo s fd ⟨[u], []⟩ [(x, u)]) :
    codeAny (model P w) callerA (.call (.ref fa) ⟨[.ref a], []⟩) (fun r s' => r = .ok (.ret (.bool true)) ∧ OldK s₁.heap s'.heap ∧ s'.os = s₁.os ∧ AllBare s'.gens) s₁ := by
  have rv := vals_ints hi
  have lenV := hi.length
  have hl' : ns.length ≤ sizeLine := Nat.le_trans hl (by decide)
  obtain ⟨mm, om, em, pm, hm1, hm2, hm3⟩ := hsm
  have hne : a ≠ sysModules := by
    intro z
    subst z
    rw [ha] at hm1
    cases hm1
    have d' : Data.seq vs.toArray _ = Data.dict em pm := hm2
    cases d'
  -- from an abstract heap in which nothing but the script and the modules' dict may be tracked
  have core : ∀ H : Hp, (∀ b u, H b = some u → (∃ o y, u = .frz o y) ∧ (b = a ∨ b = sysModules)) → SqL K H a (ns.map V.int) → (∃ o u, H sysModules = some (.frz o u)) → HOk P w H s₁.heap → (H a ≠ none → K.lookup a = none) →
      codeAny (model P w) callerA (.call (.ref fa) ⟨[.ref a], []⟩) (fun r s' => r = .ok (.ret (.bool true)) ∧ OldK s₁.heap s'.heap ∧ s'.os = s₁.os ∧ AllBare s'.gens) s₁ := by
    intro H hO hS hSM hok hK
    have base_of : ∀ {b : Addr} {o : Obj}, s₁.heap.get? b = some o → H b = none → (hidT s₁.heap H).get? b = some o := fun e n => hidT_get e n
    have noA : ∀ {b : Addr} {o : Obj} {es : Array DictEntry} {ep : Nat}, s₁.heap.get? b = some o → o.data = .dict es ep → b ≠ sysModules → H b = none := fun {b o es ep} e d hn => by
      cases q : H b with
      | none => rfl
      | some u =>
        have e' : b = a := (hO b u q).2.resolve_right hn
        subst e'
        rw [ha] at e; cases e
        have d' : Data.seq vs.toArray _ = Data.dict es ep := d
        cases d'
    have nsK : ∀ {b : Addr} {m : Str → Option Value}, b ≠ sysModules → s₁.heap.Ns b m → (hidT s₁.heap H).Ns b m := fun {b m} hn ⟨o, es, ep, e, d, r⟩ => ⟨o, es, ep, base_of e (noA e d hn), d, r⟩
    have hKb : K.In (hidT s₁.heap H) := fun b o e => base_of (KX b o e) (by
      cases q : H b with
      | none => rfl
      | some u =>
        rcases (hO b u q).2 with z | z
        · subst z
          rw [hK (by rw [q]; simp)] at e; cases e
        · subst z
          rw [hKs] at e; cases e)
    have hM : Mod K mg (hidT s₁.heap H) := ⟨hKb, nsK (by decide) hns, ⟨mb, nsK (by decide) hb, hbb⟩, let ⟨mc, h1, h2⟩ := hlim; ⟨mc, nsK (by decide) h1, h2⟩⟩
    have e0 : Env0 P w K mg (hidT s₁.heap H) callerA [] s₁ H := ⟨rfl, hM, fun b o e => of_hidT e, Nat.le_of_eq (hidT_size _ _), trivial, fun b hb => absurd (show b ∈ ([] : List Addr) from hb) (by simp), hok, .of_eq hg⟩
    refine codeAny_mono ((F _ hKb (nsK (by decide) hns)).run callerA [] s₁ H ⟨[.ref a], []⟩ [.ref a] [.ref a] (fun v _ => v = .bl true) E0 hr rfl e0 (hbind s₁ (.ref a)) (.cons rfl .nil) ⟨a, ns, rfl, hl, hbits, hS, hSM, fun _ => rfl⟩) fun r s' h => ?_
    cases r with
    | error e => exact False.elim h
    | ok fl =>
      cases fl with
      | next => exact False.elim h
      | brk => exact False.elim h
      | cont => exact False.elim h
      | ret u =>
        obtain ⟨v, H', os, bare, un, hok', r', q⟩ := h
        have q' : v = .bl true := q
        subst q'
        obtain rfl : u = Value.bool true := r'
        refine ⟨rfl, OldK.of_keep fun b o e => ?_, os, bare⟩
        cases q : H b with
        | none => exact un.keep b o e q (by intro z; exact absurd (show b ∈ ([] : List Addr) from z) (by simp)) (by simp)
        | some u =>
          obtain ⟨⟨ob, y, rfl⟩, _⟩ := hO b u q
          have z2 := un.frzs b ob _ q
          obtain ⟨e1, _⟩ := hok b _ q
          obtain ⟨e2, _⟩ := hok' b _ z2
          rw [e] at e1; cases e1
          exact e2
  have sm2 : s₁.heap.get? sysModules = some om := hm1
  cases hk : K.lookup a with
  | some o =>
    have e := KX a o hk
    rw [ha] at e
    cases e
    refine core (fun b => if b = sysModules then some (.frz om (.own 0)) else none) (fun b u z => ?_) (.inr ⟨_, vs.toArray, _, hk, rfl, rfl, rfl, by rw [List.size_toArray, lenV]; exact hl', by simpa using rv⟩) ⟨_, _, if_pos rfl⟩ (fun b u z => ?_) fun z => absurd (if_neg hne) z
    · by_cases hb : b = sysModules
      · rw [if_pos hb] at z; cases z; exact ⟨⟨_, _, rfl⟩, .inr hb⟩
      · rw [if_neg hb] at z; cases z
    · by_cases hb : b = sysModules
      · have z' := (if_pos hb).symm.trans z
        cases z'
        subst hb
        exact ⟨sm2, om, sm2⟩
      · have z' := (if_neg hb).symm.trans z
        cases z'
  | none =>
    refine core (fun b => if b = a then some (.frz { cls := .type "list", data := .seq vs.toArray } (.lst (ns.map V.int))) else if b = sysModules then some (.frz om (.own 0)) else none) (fun b u z => ?_) (.inl (.inr ⟨{ cls := .type "list", data := .seq vs.toArray }, if_pos rfl⟩)) ⟨om, .own 0, ?_⟩ (fun b u z => ?_) fun _ => hk
    · by_cases hb : b = a
      · rw [if_pos hb] at z; cases z; exact ⟨⟨_, _, rfl⟩, .inl hb⟩
      · rw [if_neg hb] at z
        by_cases hb : b = sysModules
        · rw [if_pos hb] at z; cases z; exact ⟨⟨_, _, rfl⟩, .inr hb⟩
        · rw [if_neg hb] at z; cases z
    · show (if sysModules = a then _ else if sysModules = sysModules then _ else _) = _
      rw [if_neg (Ne.symm hne), if_pos rfl]
    · by_cases hb : b = a
      · have z' := (if_pos hb).symm.trans z
        cases z'
        subst hb
        exact ⟨ha, by rw [List.length_map]; exact hl', vs, _, rv, ha⟩
      · have z' := (if_neg hb).symm.trans z
        by_cases hb : b = sysModules
        · have z'' := (if_pos hb).symm.trans z'
          cases z''
          subst hb
          exact ⟨sm2, om, sm2⟩
        · have z'' := (if_neg hb).symm.trans z'
          cases z''
/-- the goal that k_head leaves -/
theorem walk_ofG {l : PySem.W.OpenLaw} {k : Nat} {q : Program} {loose : List Str} {XP : (Str → Option Value) → Heap → Prop} {YP : World → Heap → Prop} {d : DefRec} {K : Params → PySem.W.Frag} {x : Str}
    (hn : l.most = some 63) (hdf : d.params.defaults = []) (hr : Room k callerA) (hin : importsNone q = true) (hY : ∀ (w : World) (h : Heap), YP w h → (K w.params).In h)
    (F : ∀ (w : World) (mg : Str → Option Value) (fa : Addr) (h : Heap), (K w.params).In h → h.Ns mainGlobals mg → mg d.name = some (.ref fa) → (K w.params).lookup sysModules = none ∧
      ∃ fd : FuncData, (∀ (s : Shared) (u : Value), BindsTo s fd ⟨[u], []⟩ [(x, u)]) ∧
        ∀ base : Heap, (K w.params).In base → base.Ns mainGlobals mg → FnG l.prog w (K w.params) mg base CX0 k fa fd [x] (spLaw (K w.params))) :
    PySem.W.WalkO q loose XP YP l.row.toRowW d [] (fun f vs => PySem.call f vs) := by
  refine Att.attach_callB hn hdf fun w s₀ s₁ mg mb fa o pm cd doc a vs ns G Y ho hd hcd hmg hobj hints hlen hbits hg => ?_
  have KX := hY w _ Y
  obtain ⟨hks, fd, hb, hF⟩ := F w mg fa _ KX G.T.g hmg
  obtain ⟨mm, hmm, _⟩ := (G.T.seer hin).mods
  exact law_callG KX G.T.g G.T.b G.T.builtins G.T.nolimit hg ⟨mm, hmm⟩ hks hobj hints hlen hbits hr hF hb
/-- a reading with an unknown -/
theorem pss_ex {X : Cx} {sts : List Stmt} {α : Type} {t : α → TS} (h : ∀ x, PSs X sts (t x)) : PSs X sts (fun D σ H => ∃ x, t x D σ H) := ⟨fun pins s σ H D I ⟨x, q⟩ => (h x).run pins s σ H D I q⟩
end Mp

/-! MpC: the rules with their side conditions filled, for printed terms. -/
namespace Mp
open PySem PySem.Spec L2
open PyProof.Rows hiding St
variable {J : Type}
section
variable {S : Js J} {B : Bs} {M : Nat → Bool} {W : WX} {X : Cx} {e a b c d o elt tg iter : Expr} {es es' rest ifs : List Expr} {pos p p1 p2 p3 spos py apos : Pos} {f fa fb fc fe fo : Ev J} {fr : Av J} {x y z : Str} {i k l : Nat} {kk : Nat}
theorem xV (i : Nat) (hM : M i = false := by rfl) (hN : X.N[i]? = some x := by rfl) (hv : Vis X.env.scope x := by first | exact Or.inl rfl | exact Or.inr (Or.inl rfl) | exact Or.inr (Or.inr rfl)) (hd : (x == ("__debug__" : Str)) = false := by decide) (hcd : (x == ("__classdict__" : Str)) = false := by decide) :
    PE X (.Name x pos) (rdE S B M W .clean (eVar i)) := by
  have h := e_var (S := S) (B := B) (M := M) (W := W) (pos := pos) hN hv hd hcd
  rw [hM] at h
  exact h
theorem xO (i : Nat) (hM : M i = true := by rfl) (hN : X.N[i]? = some x := by rfl) (hv : Vis X.env.scope x := by first | exact Or.inl rfl | exact Or.inr (Or.inl rfl) | exact Or.inr (Or.inr rfl)) (hd : (x == ("__debug__" : Str)) = false := by decide) (hcd : (x == ("__classdict__" : Str)) = false := by decide) :
    PE X (.Name x pos) (rdE S B M W .mix (eVar i)) := by
  have h := e_var (S := S) (B := B) (M := M) (W := W) (pos := pos) hN hv hd hcd
  rw [hM] at h
  exact h
theorem cI {i : Int} : PE X (.Constant (.int i) kk pos) (rdE S B M W .clean (eC (.int i))) := e_c pe_int fun _ => .int _
theorem cB {i : Bool} : PE X (.Constant (.bool i) kk pos) (rdE S B M W .clean (eC (.bl i))) := e_c pe_bl fun _ => .bl _
theorem cN : PE X (.Constant .none kk pos) (rdE S B M W .clean (eC .non)) := e_c pe_non fun _ => .non
theorem cS : PE X (.Constant (.str x) kk pos) (rdE S B M W .clean (eC (.str x))) := e_c pe_str fun _ => .str _
theorem toMixC (h : PE X e (rdE S B M W .clean f)) : PE X e (rdE S B M W .mix f) := toMix h
theorem toMixF (h : PE X e (rdE S B M W .fresh f)) : PE X e (rdE S B M W .mix f) := toMix h
/-! operators: C on frozen, X on seen arguments -/
variable (hK : X.K = S.K)
theorem bAddC (hK : X.K = S.K) (ha : PE X a (rdE S B M W .clean fa)) (hb : PE X b (rdE S B M W .clean fb)) : PE X (.BinOp a .Add b pos) (rdE S B M W .clean (eOp addD fa fb)) := e_bin (ci := true) op_addD (by rw [hK]; exact s_add) ha hb
theorem bAddX (hK : X.K = S.K) (ha : PE X a (rdE S B M W .mix fa)) (hb : PE X b (rdE S B M W .mix fb)) : PE X (.BinOp a .Add b pos) (rdE S B M W .mix (eOp addD fa fb)) := e_bin (ci := false) op_addD (by rw [hK]; exact s_add) ha hb
theorem bAddF (ha : PE X a (rdE S B M W .clean fa)) (hb : PE X b (rdE S B M W .clean fb)) : PE X (.BinOp a .Add b pos) (rdE S B M W .fresh (eOp addL fa fb)) := e_bin (ci := true) op_cat s_addL ha hb
theorem bSub (ha : PE X a (rdE S B M W .mix fa)) (hb : PE X b (rdE S B M W .mix fb)) : PE X (.BinOp a .Sub b pos) (rdE S B M W .clean (eOp subD fa fb)) := e_bin (ci := false) op_sub s_sub ha hb
theorem bMulC (ha : PE X a (rdE S B M W .clean fa)) (hb : PE X b (rdE S B M W .clean fb)) : PE X (.BinOp a .Mult b pos) (rdE S B M W .clean (eOp mulD fa fb)) := e_bin (ci := true) op_mulD s_mul ha hb
theorem bMulX (ha : PE X a (rdE S B M W .mix fa)) (hb : PE X b (rdE S B M W .mix fb)) : PE X (.BinOp a .Mult b pos) (rdE S B M W .mix (eOp mulD fa fb)) := e_bin (ci := false) op_mulD s_mul ha hb
theorem bMulF (ha : PE X a (rdE S B M W .clean fa)) (hb : PE X b (rdE S B M W .clean fb)) : PE X (.BinOp a .Mult b pos) (rdE S B M W .fresh (eOp mulL fa fb)) := e_bin (ci := true) op_rep s_mulL ha hb
theorem bDiv (ha : PE X a (rdE S B M W .mix fa)) (hb : PE X b (rdE S B M W .mix fb)) : PE X (.BinOp a .FloorDiv b pos) (rdE S B M W .clean (eOp fdivD fa fb)) := e_bin (ci := false) op_fdivW s_fdiv ha hb
theorem bMod (ha : PE X a (rdE S B M W .mix fa)) (hb : PE X b (rdE S B M W .mix fb)) : PE X (.BinOp a .Mod b pos) (rdE S B M W .clean (eOp modD fa fb)) := e_bin (ci := false) op_mod s_mod ha hb
theorem bPow (ha : PE X a (rdE S B M W .mix fa)) (hb : PE X b (rdE S B M W .mix fb)) : PE X (.BinOp a .Pow b pos) (rdE S B M W .clean (eOp powD fa fb)) := e_bin (ci := false) op_pow s_pow ha hb
theorem uNeg (ha : PE X a (rdE S B M W .mix fa)) : PE X (.UnaryOp .USub a pos) (rdE S B M W .clean (eUn negD fa)) := e_un (ci := false) un_neg s_neg ha
/-! comparisons -/
def ltD : D → D → Option D := cmpD fun i j => decide (i < j)
def leD : D → D → Option D := cmpD fun i j => decide (i ≤ j)
def gtD : D → D → Option D := cmpD fun i j => decide (j < i)
def geD : D → D → Option D := cmpD fun i j => decide (j ≤ i)
theorem kEq (hK : X.K = S.K) (hu : X.A.units + 64 < cLine) : OpR X (compareOp .Eq) (rEqE S.K) := hK ▸ op_eqE hu
theorem kNe (hK : X.K = S.K) (hu : X.A.units + 64 < cLine) : OpR X (compareOp .NotEq) (rNeE S.K) := hK ▸ op_neE hu
theorem eCp {op : CmpOp} {r : R2} {φ : D → D → Option D} (hr : OpR X (compareOp op) r) (ho : OpS S r φ false .clean) (ha : PE X a (rdE S B M W .mix fa)) (hb : PE X b (rdE S B M W .mix fb)) (h : op ≠ .In := by decide) (h2 : op ≠ .NotIn := by decide) : PE X (.Compare a [op] [b] pos) (rdE S B M W .clean (eOp φ fa fb)) := e_cmp (ci := false) hr ho ha hb (nomark _ h h2)
theorem tCp {op : CmpOp} {r : R2} {φ : D → D → Option D} (hr : OpR X (compareOp op) r) (ho : OpS S r φ false .clean) (ha : PE X a (rdE S B M W .mix fa)) (hb : PE X b (rdE S B M W .mix fb)) (h : op ≠ .In := by decide) (h2 : op ≠ .NotIn := by decide) : PT X (.Compare a [op] [b] pos) (rdT S B M W (tBl (eOp φ fa fb))) := t_cmp (ci := false) hr ho ha hb (nomark _ h h2)
theorem eCh {op op' : CmpOp} {r r' : R2} {φ ψ : D → D → Option D} (hr : OpR X (compareOp op) r) (hr' : OpR X (compareOp op') r') (ho : OpS S r φ false .clean) (ho' : OpS S r' ψ false .clean) (ha : PE X a (rdE S B M W .mix fa)) (hb : PE X b (rdE S B M W .mix fb)) (hc : PE X c (rdE S B M W .mix fc)) (hm : lastMarks [op, op'] [b, c] = false := by rfl) :
    PE X (.Compare a [op, op'] [b, c] pos) (rdE S B M W .clean (eChain φ ψ fa fb fc)) := e_chain (ci := false) hr hr' ho ho' ha hb hc hm
theorem tCh {op op' : CmpOp} {r r' : R2} {φ ψ : D → D → Option D} (hr : OpR X (compareOp op) r) (hr' : OpR X (compareOp op') r') (ho : OpS S r φ false .clean) (ho' : OpS S r' ψ false .clean) (ha : PE X a (rdE S B M W .mix fa)) (hb : PE X b (rdE S B M W .mix fb)) (hc : PE X c (rdE S B M W .mix fc)) (hm : lastMarks [op, op'] [b, c] = false := by rfl) :
    PT X (.Compare a [op, op'] [b, c] pos) (rdT S B M W (tBl (eChain φ ψ fa fb fc))) := t_chain (ci := false) hr hr' ho ho' ha hb hc hm
theorem tTr (hK : X.K = S.K) (h : PE X a (rdE S B M W .mix fa)) (he : ∀ whole, isTrue a X.env whole = (do let v ← whole; standAt a.pos; holding [v] (truthy v)) := by intro _; rfl) : PT X a (rdT S B M W (tOf fa)) := t_truth hK h he
/-! items, parts -/
theorem ixC (hK : X.K = S.K) (ha : PE X a (rdE S B M W .clean fa)) (hb : PE X b (rdE S B M W .clean fb)) (hs : PlainIx b := by intro _ _; rfl) : PE X (.Subscript a b pos) (rdE S B M W .clean (eOp idxD fa fb)) := e_ix (ci := true) ix_seq (by rw [hK]; exact s_idx) ha hb hs
theorem ixX (hK : X.K = S.K) (ha : PE X a (rdE S B M W .mix fa)) (hb : PE X b (rdE S B M W .mix fb)) (hs : PlainIx b := by intro _ _; rfl) : PE X (.Subscript a b pos) (rdE S B M W .mix (eOp idxD fa fb)) := e_ix (ci := false) ix_seq (by rw [hK]; exact s_idx) ha hb hs
variable {lo hi : Option Expr} {fl fh : Pv J}
theorem slC (hK : X.K = S.K) (ha : PE X a (rdE S B M W .clean fa)) (hl : PO X lo (rdP S B M W fl)) (hh : PO X hi (rdP S B M W fh)) : PE X (.Subscript a (.Slice lo hi none p2) pos) (rdE S B M W .clean (eSl sliceD fa fl fh)) := e_slice (ci := true) sl_D (by rw [hK]; exact s_slice) ha hl hh
theorem slX (hK : X.K = S.K) (ha : PE X a (rdE S B M W .mix fa)) (hl : PO X lo (rdP S B M W fl)) (hh : PO X hi (rdP S B M W fh)) : PE X (.Subscript a (.Slice lo hi none p2) pos) (rdE S B M W .mix (eSl sliceD fa fl fh)) := e_slice (ci := false) sl_D (by rw [hK]; exact s_slice) ha hl hh
theorem slF (hK : X.K = S.K) (ha : PE X a (rdE S B M W .clean fa)) (hl : PO X lo (rdP S B M W fl)) (hh : PO X hi (rdP S B M W fh)) : PE X (.Subscript a (.Slice lo hi none p2) pos) (rdE S B M W .fresh (eSl sliceL fa fl fh)) := e_slice (ci := true) sl_list (by rw [hK]; exact s_sliceL) ha hl hh
theorem rvC (hK : X.K = S.K) (ha : PE X a (rdE S B M W .clean fa)) : PE X (.Subscript a (.Slice none none (some (.UnaryOp .USub (.Constant (.int 1) k p1) p2)) p3) pos) (rdE S B M W .clean (eUn revD fa)) := e_rev (ci := true) hK ha
theorem rvX (hK : X.K = S.K) (ha : PE X a (rdE S B M W .mix fa)) : PE X (.Subscript a (.Slice none none (some (.UnaryOp .USub (.Constant (.int 1) k p1) p2)) p3) pos) (rdE S B M W .mix (eUn revD fa)) := e_rev (ci := false) hK ha
theorem rvF (ha : PE X a (rdE S B M W .clean fa)) : PE X (.Subscript a (.Slice none none (some (.UnaryOp .USub (.Constant (.int 1) k p1) p2)) p3) pos) (rdE S B M W .fresh (eUn revL fa)) := e_revL (ci := true) ha
/-! argument lists, displays -/
theorem aN {k : Bool} : PA X [] (rdA S B M W k aNil) := a_nil
theorem aC (ha : PE X e (rdE S B M W .clean fa)) (hr : PA X es (rdA S B M W true fr)) (hs : starEach (e :: es) X.env = (false, eval e X.env) :: starEach es X.env := by rfl) : PA X (e :: es) (rdA S B M W true (aCons fa fr)) := a_cons (k := true) ha hr hs
theorem aX (ha : PE X e (rdE S B M W .mix fa)) (hr : PA X es (rdA S B M W false fr)) (hs : starEach (e :: es) X.env = (false, eval e X.env) :: starEach es X.env := by rfl) : PA X (e :: es) (rdA S B M W false (aCons fa fr)) := a_cons (k := false) ha hr hs
theorem tpC {x1 : Nat} (ha : PA X es (rdA S B M W true fr)) : PE X (.Tuple es x1 pos) (rdE S B M W .clean (eTup fr)) := e_tup (k := true) ha
theorem tpX {x1 : Nat} (ha : PA X es (rdA S B M W false fr)) : PE X (.Tuple es x1 pos) (rdE S B M W .mix (eTup fr)) := e_tup (k := false) ha
theorem lsF (ha : PA X es (rdA S B M W true fr)) : PE X (.List es pos) (rdE S B M W .fresh (eLst fr)) := e_lst ha
theorem lsX (ha : PA X es (rdA S B M W false fr)) : PE X (.List es pos) (rdE S B M W .mix (eLst fr)) := e_lstM ha
/-! calls -/
theorem kB {id : String} {r : List V → Hp → VK → Prop} {φ : List D → Option D} {ci : Bool} {co : Cl} (hc : CallR X (.builtin id) r) (ho : CallS S r φ ci co) (hm : X.mg x = none) (hv : bootBuiltins x = some (.builtin id)) (ha : PA X (e :: es) (rdA S B M W ci fr)) (hg : Gl X x := by rfl) (hn : x ≠ "__name__" := by decide) (hdb : (x == ("__debug__" : Str)) = false := by decide)
    (he : starEach (e :: es) X.env = (false, eval e X.env) :: starEach es X.env := by rfl) (hpl : (backTo pos (starEach es X.env)).any (·.1) = false := by rfl) : PE X (.Call (.Name x p) (e :: es) [] pos) (rdE S B M W co (eB φ fr)) := e_callB hc ho hg hm hv ha hn hdb he hpl
theorem kT {T : String} {r : List V → Hp → VK → Prop} {φ : List D → Option D} {ci : Bool} {co : Cl} (hc : CallR X (.type T) r) (ho : CallS S r φ ci co) (hm : X.mg x = none) (hv : bootBuiltins x = some (.type T)) (ha : PA X (e :: es) (rdA S B M W ci fr)) (hg : Gl X x := by rfl) (hn : x ≠ "__name__" := by decide) (hdb : (x == ("__debug__" : Str)) = false := by decide)
    (he : starEach (e :: es) X.env = (false, eval e X.env) :: starEach es X.env := by rfl) (hpl : (backTo pos (starEach es X.env)).any (·.1) = false := by rfl) : PE X (.Call (.Name x p) (e :: es) [] pos) (rdE S B M W co (eB φ fr)) := e_callTy hc ho hg hm hv ha hn hdb he hpl
theorem idxE (hK : X.K = S.K) (ho : PE X o (rdE S B M W .mix fo)) (he : PE X e (rdE S B M W .mix fe)) (hl : (apos.endLine == p.line) = true := by rfl) (hs : starEach [e] X.env = [(false, eval e X.env)] := by rfl) (hb : attributeBase o "index" X.env (eval o X.env) = eval o X.env := by rfl)
    (hf : ((backTo p (starEach [e] X.env)).all (fun x => !x.1) && (backToKw p (keywordEach [] X.env)).all (fun x => x.1.isSome)
      && decide (([e] : List Expr).length + ([] : List Keyword).length + (if ([] : List Keyword).isEmpty then 0 else 1) < 30)) = true := by rfl) :
    PE X (.Call (.Attribute o "index" apos) [e] [] p) (rdE S B M W .clean (eMt indexD fo fe)) := e_index (ci := false) hK ho he hl hs hb hf
/-- a def that may be called: its promise on data -/
structure Cal (S : Js J) (P : Program) (w : World) (mg : Str → Option Value) (base : Heap) (k : Nat) (x : Str) (n : Nat) (φ : Fv J) : Prop where
  ex : ∃ fn fd ps, FnG P w S.K mg base (L2.CX P w) k fn fd ps (spF S n φ) ∧ mg x = some (.ref fn) ∧ PySem.W.keepIn S.K (.ref fn) = true ∧ Binds S.K fd ps []
  ln : ∀ ds j P E, φ ds j P E → ds.length = n
theorem callC {k n : Nat} {φ : Fv J} (hK : X.K = S.K) (tk : Takes X W) (C : Cal S X.prog X.w X.mg X.base k x n φ) (hr : Room k X.A) (hgd : X.A.guards = some []) (ha : PA X (e :: es) (rdA S B M W true fr)) (hg : Gl X x := by rfl) (hdb : (x == ("__debug__" : Str)) = false := by decide)
    (he : starEach (e :: es) X.env = (false, eval e X.env) :: starEach es X.env := by rfl) (hpl : (backTo pos (starEach es X.env)).any (·.1) = false := by rfl) : PE X (.Call (.Name x p) (e :: es) [] pos) (rdE S B M W .clean (eCall φ fr)) := by
  obtain ⟨fn, fd, ps, F, h1, h2, h3⟩ := C.ex
  exact e_call (hK ▸ F) tk hr hgd hg h1 (hK ▸ h2) (hK ▸ h3) C.ln ha hdb he hpl
theorem callX [PureJ S] {k n : Nat} {φ : Fv J} (hK : X.K = S.K) (tk : Takes X W) (C : Cal S X.prog X.w X.mg X.base k x n φ) (hr : Room k X.A) (hgd : X.A.guards = some []) (ha : PA X (e :: es) (rdA S B M W false fr)) (hg : Gl X x := by rfl) (hdb : (x == ("__debug__" : Str)) = false := by decide)
    (he : starEach (e :: es) X.env = (false, eval e X.env) :: starEach es X.env := by rfl) (hpl : (backTo pos (starEach es X.env)).any (·.1) = false := by rfl) : PE X (.Call (.Name x p) (e :: es) [] pos) (rdE S B M W .mix (eCallM φ fr)) := by
  obtain ⟨fn, fd, ps, F, h1, h2, h3⟩ := C.ex
  exact e_callM (hK ▸ F) tk hr hgd hg h1 (hK ▸ h2) (hK ▸ h3) C.ln ha hdb he hpl
theorem callC0 {k n : Nat} {φ : Fv J} (hK : X.K = S.K) (tk : Takes X W) (C : Cal S X.prog X.w X.mg X.base k x n φ) (hr : Room k X.A) (hgd : X.A.guards = some []) (hg : Gl X x := by rfl) (hdb : (x == ("__debug__" : Str)) = false := by decide) :
    PE X (.Call (.Name x p) [] [] pos) (rdE S B M W .clean (eCall φ aNil)) := by
  obtain ⟨fn, fd, ps, F, h1, h2, h3⟩ := C.ex
  exact e_call0 (hK ▸ F) tk hr hgd hg h1 (hK ▸ h2) (hK ▸ h3) C.ln hdb
/-! ranges -/
theorem lR1 (hml : X.mg "list" = none) (hm : X.mg "range" = none) (ha : PE X a (rdE S B M W .mix fa)) (hc : X.calm = true := by rfl) (hgl : Gl X "list" := by rfl) (hg : Gl X "range" := by rfl) (hs : starEach [a] X.env = [(false, eval a X.env)] := by rfl)
    (hs2 : starEach [.Call (.Name "range" p) [a] [] pos] X.env = [(false, eval (.Call (.Name "range" p) [a] [] pos) X.env)] := by rfl) : PE X (.Call (.Name "list" p1) [.Call (.Name "range" p) [a] [] pos] [] p2) (rdE S B M W .fresh (eLrg (iRng1 fa))) := e_lrg1 hc hgl hml hg hm ha hs hs2
theorem lR2 (hml : X.mg "list" = none) (hm : X.mg "range" = none) (ha : PE X a (rdE S B M W .mix fa)) (hb : PE X b (rdE S B M W .mix fb)) (hc : X.calm = true := by rfl) (hgl : Gl X "list" := by rfl) (hg : Gl X "range" := by rfl) (hs : starEach [a, b] X.env = (false, eval a X.env) :: starEach [b] X.env := by rfl) (hs1 : starEach [b] X.env = [(false, eval b X.env)] := by rfl)
    (hp : (backTo pos (starEach [b] X.env)).any (·.1) = false := by rfl) (hs2 : starEach [.Call (.Name "range" p) [a, b] [] pos] X.env = [(false, eval (.Call (.Name "range" p) [a, b] [] pos) X.env)] := by rfl) :
    PE X (.Call (.Name "list" p1) [.Call (.Name "range" p) [a, b] [] pos] [] p2) (rdE S B M W .fresh (eLrg (iRng2 fa fb))) := e_lrg2 hc hgl hml hg hm ha hb hs hs1 hp hs2
theorem tR1 (hml : X.mg "tuple" = none) (hm : X.mg "range" = none) (ha : PE X a (rdE S B M W .mix fa)) (hc : X.calm = true := by rfl) (hgl : Gl X "tuple" := by rfl) (hg : Gl X "range" := by rfl) (hs : starEach [a] X.env = [(false, eval a X.env)] := by rfl)
    (hs2 : starEach [.Call (.Name "range" p) [a] [] pos] X.env = [(false, eval (.Call (.Name "range" p) [a] [] pos) X.env)] := by rfl) : PE X (.Call (.Name "tuple" p1) [.Call (.Name "range" p) [a] [] pos] [] p2) (rdE S B M W .clean (eTrg (iRng1 fa))) := e_trg1 hc hgl hml hg hm ha hs hs2
theorem tR2 (hml : X.mg "tuple" = none) (hm : X.mg "range" = none) (ha : PE X a (rdE S B M W .mix fa)) (hb : PE X b (rdE S B M W .mix fb)) (hc : X.calm = true := by rfl) (hgl : Gl X "tuple" := by rfl) (hg : Gl X "range" := by rfl) (hs : starEach [a, b] X.env = (false, eval a X.env) :: starEach [b] X.env := by rfl) (hs1 : starEach [b] X.env = [(false, eval b X.env)] := by rfl)
    (hp : (backTo pos (starEach [b] X.env)).any (·.1) = false := by rfl) (hs2 : starEach [.Call (.Name "range" p) [a, b] [] pos] X.env = [(false, eval (.Call (.Name "range" p) [a, b] [] pos) X.env)] := by rfl) :
    PE X (.Call (.Name "tuple" p1) [.Call (.Name "range" p) [a, b] [] pos] [] p2) (rdE S B M W .clean (eTrg (iRng2 fa fb))) := e_trg2 hc hgl hml hg hm ha hb hs hs1 hp hs2
/-! what is walked over -/
theorem iSq (hK : X.K = S.K) (h : PE X e (rdE S B M W .clean f)) : PI X tg e (rdI S B M W true false (iSeq f)) := i_seq hK h
theorem iR1 (hm : X.mg "range" = none) (ha : PE X a (rdE S B M W .mix fa)) (hg : Gl X "range" := by rfl) (hs : starEach [a] X.env = [(false, eval a X.env)] := by rfl) : PI X tg (.Call (.Name "range" p) [a] [] pos) (rdI S B M W true false (iRng1 fa)) := i_rng1 hg hm ha hs
theorem iR2 (hm : X.mg "range" = none) (ha : PE X a (rdE S B M W .mix fa)) (hb : PE X b (rdE S B M W .mix fb)) (hg : Gl X "range" := by rfl) (hs : starEach [a, b] X.env = [(false, eval a X.env), (false, eval b X.env)] := by rfl) (hs2 : starEach [b] X.env = [(false, eval b X.env)] := by rfl) :
    PI X tg (.Call (.Name "range" p) [a, b] [] pos) (rdI S B M W true false (iRng2 fa fb)) := i_rng2 hg hm ha hb hs hs2
theorem iEn {elts : List Expr} {kt : Nat} {tpos : Pos} (hK : X.K = S.K) (hm : X.mg "enumerate" = none) (ha : PE X a (rdE S B M W .clean fa)) (hg : Gl X "enumerate" := by rfl) (hs : starEach [a] X.env = [(false, eval a X.env)] := by rfl) : PI X (.Tuple elts kt tpos) (.Call (.Name "enumerate" p) [a] [] pos) (rdI S B M W true true (iEnm fa)) := i_enum hK hg hm ha hs
theorem iZp {elts : List Expr} {kt : Nat} {tpos : Pos} (hK : X.K = S.K) (hm : X.mg "zip" = none) (ha : PE X a (rdE S B M W .clean fa)) (hb : PE X b (rdE S B M W .clean fb)) (hg : Gl X "zip" := by rfl)
    (hs : starEach [a, b] X.env = (false, eval a X.env) :: starEach [b] X.env := by rfl) (hs2 : starEach [b] X.env = [(false, eval b X.env)] := by rfl) (hpl : (backTo pos (starEach [b] X.env)).any (·.1) = false := by rfl) :
    PI X (.Tuple elts kt tpos) (.Call (.Name "zip" p) [a, b] [] pos) (rdI S B M W true true (iZip fa fb)) := i_zip hK hg hm ha hb hs hs2 hpl
theorem iOw (i : Nat) (hK : X.K = S.K) (hM : M i = true := by rfl) (hN : X.N[i]? = some x := by rfl) (hv : Vis X.env.scope x := by first | exact Or.inl rfl | exact Or.inr (Or.inl rfl) | exact Or.inr (Or.inr rfl)) (hd : (x == ("__debug__" : Str)) = false := by decide) (hcd : (x == ("__classdict__" : Str)) = false := by decide) :
    PI X tg (.Name x pos) (rdI S B M W false false (iSeq (eVar i))) := i_own hK hM hN hv hd hcd
/-! targets -/
theorem gN (i : Nat) (hN : X.N.Nodup) (hM : M i = false := by rfl) (hi : X.N[i]? = some x := by rfl) (hx : Loc X.env.scope x := by first | exact Or.inl rfl | exact Or.inr rfl) (hf : X.fn x = true ∨ X.env.scope.names.lookup x = some .local := by first | exact Or.inl rfl | exact Or.inr rfl) : PG X (.Name x pos) (rdG S B M false [i] (gNm i)) := g_name hM hN hi hx hf
theorem gs0 : PGs X [] (rdGs S B M [] gsNil) := gs_nil
theorem gsC {ks ks' : List Nat} {γ : Gv} {γs : Gvs} (h1 : PG X e (rdG S B M false ks γ)) (h2 : PGs X es (rdGs S B M ks' γs)) (hs : (assignEach (e :: es) X.env).map (·.2) = assign e X.env :: (assignEach es X.env).map (·.2) := by rfl) : PGs X (e :: es) (rdGs S B M (ks ++ ks') (gsCons γ γs)) := gs_cons h1 h2 hs
theorem gsN_len : ∀ ds m m', gsNil ds m = some m' → ds.length = 0 := fun ds m m' h => by
  unfold gsNil at h
  split at h
  · rfl
  · cases h
theorem gsC_len {γ : Gv} {γs : Gvs} {n : Nat} (h : ∀ ds m m', γs ds m = some m' → ds.length = n) : ∀ ds m m', gsCons γ γs ds m = some m' → ds.length = n + 1 := fun ds m m' q => by
  unfold gsCons at q
  split at q
  · split at q
    · rw [List.length_cons, h _ _ _ q]
    · cases q
  · cases q
theorem gT {w : Bool} {kt n : Nat} {ks : List Nat} {γs : Gvs} (hK : X.K = S.K) (hl : ∀ ds m m', γs ds m = some m' → ds.length = n) (h : PGs X es (rdGs S B M ks γs)) (hc : X.calm = true := by rfl) (hn : (assignEach es X.env).length = n := by rfl) (hst : (assignEach es X.env).findIdx? (·.1) = none := by rfl) :
    PG X (.Tuple es kt pos) (rdG S B M w ks (gTp γs)) := g_tup hK hc h hn hst hl
/-! comprehensions -/
variable {scope : Scope} {fi : Iv J} {γ : Gv} {ft : Tv J} {ks : List Nat} {cc w : Bool}
theorem lcF (own : List (Str × Nat)) (hN : X.N.Nodup) (ok : BlkOk X.N X.env.scope scope own) (hi : PI X tg iter (rdI S B M W cc w fi))
    (hg : ∀ (s : Shared) (H : Hp) (C : Addr) (cl : List (Str × Addr)) (fp : List Addr), PG (X.blk s H scope (compEnvC scope cl C X.env) fp) tg (rdG S B M w ks γ)) (ht : ∀ (s : Shared) (H : Hp) (C : Addr) (cl : List (Str × Addr)) (fp : List Addr), PTs (X.blk s H scope (compEnvC scope cl C X.env) fp) ifs (rdT S B M W0 ft))
    (he : ∀ (s : Shared) (H : Hp) (C : Addr) (cl : List (Str × Addr)) (fp : List Addr), PE (X.blk s H scope (compEnvC scope cl C X.env) fp) elt (rdE S B M W0 .clean fe)) (hks : ∀ k ∈ ks, k ∈ own.map (·.2) := by decide) (hc : X.calm = true := by rfl) (hs : ∀ x, foldedSetIterable iter X.env x = pure x := by intro _; rfl) :
    PE X (.ListComp elt [⟨tg, iter, ifs, 0⟩] scope pos) (rdE S B M W .fresh (eComp (own.map (·.2)) fi γ ft fe)) := e_comp hc hN hi ok hks hg ht he hs
theorem ts0 : PTs X [] (rdT S B M W tYesD) := ts_nil
theorem ts1 {t : Tv J} (h : PT X c (rdT S B M W t)) : PTs X [c] (rdT S B M W t) := pts_one h
theorem setLcO (i : Nat) (own : List (Str × Nat)) (hN : X.N.Nodup) (ok : BlkOk X.N X.env.scope scope own) (hi : PI X tg iter (rdI S B M W cc w fi))
    (hg : ∀ (s : Shared) (H : Hp) (C : Addr) (cl : List (Str × Addr)) (fp : List Addr), PG (X.blk s H scope (compEnvC scope cl C X.env) fp) tg (rdG S B M w ks γ)) (ht : ∀ (s : Shared) (H : Hp) (C : Addr) (cl : List (Str × Addr)) (fp : List Addr), PTs (X.blk s H scope (compEnvC scope cl C X.env) fp) ifs (rdT S B M W0 ft))
    (he : ∀ (s : Shared) (H : Hp) (C : Addr) (cl : List (Str × Addr)) (fp : List Addr), PE (X.blk s H scope (compEnvC scope cl C X.env) fp) elt (rdE S B M W0 .clean fe)) (hks : ∀ k ∈ ks, k ∈ own.map (·.2) := by decide) (hM : M i = true := by rfl) (hy : X.N[i]? = some y := by rfl) (hyl : X.env.scope.names.lookup y = some .local := by rfl)
    (hsw : swapsWith (.ListComp elt [⟨tg, iter, ifs, 0⟩] scope pos) (some (.Name y py)) spos.line X.env = pure true := by rfl) (hc : X.calm = true := by rfl) (hs : ∀ x, foldedSetIterable iter X.env x = pure x := by intro _; rfl) :
    PS X (.Assign [.Name y py] (.ListComp elt [⟨tg, iter, ifs, 0⟩] scope pos) spos) (rdS S B M W (sSet i (eComp (own.map (·.2)) fi γ ft fe))) := s_setLcO hM hc hN hy hyl hsw hi ok hks hg ht he hs
theorem setLc (i : Nat) (own : List (Str × Nat)) (hN : X.N.Nodup) (ok : BlkOk X.N X.env.scope scope own) (hi : PI X tg iter (rdI S B M W cc w fi))
    (hg : ∀ (s : Shared) (H : Hp) (C : Addr) (cl : List (Str × Addr)) (fp : List Addr), PG (X.blk s H scope (compEnvC scope cl C X.env) fp) tg (rdG S B M w ks γ)) (ht : ∀ (s : Shared) (H : Hp) (C : Addr) (cl : List (Str × Addr)) (fp : List Addr), PTs (X.blk s H scope (compEnvC scope cl C X.env) fp) ifs (rdT S B M W0 ft))
    (he : ∀ (s : Shared) (H : Hp) (C : Addr) (cl : List (Str × Addr)) (fp : List Addr), PE (X.blk s H scope (compEnvC scope cl C X.env) fp) elt (rdE S B M W0 .clean fe)) (hks : ∀ k ∈ ks, k ∈ own.map (·.2) := by decide) (hM : M i = false := by rfl) (hy : X.N[i]? = some y := by rfl) (hyl : X.env.scope.names.lookup y = some .local := by rfl)
    (hsw : swapsWith (.ListComp elt [⟨tg, iter, ifs, 0⟩] scope pos) (some (.Name y py)) spos.line X.env = pure true := by rfl) (hc : X.calm = true := by rfl) (hs : ∀ x, foldedSetIterable iter X.env x = pure x := by intro _; rfl) :
    PS X (.Assign [.Name y py] (.ListComp elt [⟨tg, iter, ifs, 0⟩] scope pos) spos) (rdS S B M W (sSet i (eComp (own.map (·.2)) fi γ ft fe))) := s_setLc hM hc hN hy hyl hsw hi ok hks hg ht he hs
end
/-! statements -/
section
variable {S : Js J} {B : Bs} {M : Nat → Bool} {W : WX} {X : Cx} {e ek a b c d o tg iter : Expr} {es : List Expr} {st : Stmt} {body body' rest : List Stmt} {pos p p1 p2 p3 pt pt2 px py pz np ap ap2 np2 : Pos} {f fa fb fc fe fk : Ev J} {fs fs' : Sv J} {tc : Tv J} {x y z : Str} {γ : Gv} {ks : List Nat} {kt k2 : Nat}
theorem zC (h1 : PS X st (rdS S B M W fs)) (h2 : PSs X rest (rdS S B M W fs')) : PSs X (st :: rest) (rdS S B M W (sSeq fs fs')) := s_cons h1 h2
theorem zSet (i : Nat) (hN : X.N.Nodup) (he : PE X e (rdE S B M W .clean fe)) (hM : M i = false := by rfl) (hi : X.N[i]? = some x := by rfl) (hx : Loc X.env.scope x := by first | exact Or.inl rfl | exact Or.inr rfl) (hs : swapsWith e (some (.Name x py)) pos.line X.env = pure false := by rfl) (hf : X.fn x = true ∨ X.env.scope.names.lookup x = some .local := by first | exact Or.inl rfl | exact Or.inr rfl) :
    PS X (.Assign [.Name x py] e pos) (rdS S B M W (sSet i fe)) := s_set hM hN hi hx he hs hf
theorem zSetO (i : Nat) (hN : X.N.Nodup) (he : PE X e (rdE S B M W .fresh fe)) (hM : M i = true := by rfl) (hi : X.N[i]? = some x := by rfl) (hx : Loc X.env.scope x := by first | exact Or.inl rfl | exact Or.inr rfl) (hs : swapsWith e (some (.Name x py)) pos.line X.env = pure false := by rfl) (hf : X.fn x = true ∨ X.env.scope.names.lookup x = some .local := by first | exact Or.inl rfl | exact Or.inr rfl) :
    PS X (.Assign [.Name x py] e pos) (rdS S B M W (sSet i fe)) := s_setO hM hN hi hx he hs hf
theorem zAsg (he : PE X e (rdE S B M W .clean fe)) (hg : PG X tg (rdG S B M false ks γ)) (hs : swapsWithSole [tg] e pos.line X.env = pure false := by rfl) (hw : swappedStores [tg] e X.env = pure none := by rfl) (h1 : (assignEach [tg] X.env).map (·.2) = [assign tg X.env] := by rfl) : PS X (.Assign [tg] e pos) (rdS S B M W (sAsg γ fe)) := s_asg he hg hs hw h1
theorem zAdd (i : Nat) (hN : X.N.Nodup) (he : PE X e (rdE S B M W .mix fe)) (hM : M i = false := by rfl) (hi : X.N[i]? = some x := by rfl) (hx : Loc X.env.scope x := by first | exact Or.inl rfl | exact Or.inr rfl) (hf : X.fn x = true ∨ X.env.scope.names.lookup x = some .local := by first | exact Or.inl rfl | exact Or.inr rfl) :
    PS X (.AugAssign (.Name x py) .Add e pos) (rdS S B M W (sAug addI i fe)) := s_aug (h := fun i j => i + j) (fun d e z q => by unfold addI at q; split at q <;> cases q; exact ⟨_, _, rfl, rfl, rfl⟩) ip_add hM hN hi hx he hf
theorem zPr2 (i k : Nat) (hN : X.N.Nodup) (ha : PE X a (rdE S B M W (clOf M i) fa)) (hb : PE X b (rdE S B M W (clOf M k) fb)) (hc : X.calm = true := by rfl) (hi : X.N[i]? = some x := by rfl) (hk : X.N[k]? = some y := by rfl) (hik : i ≠ k := by decide) (hx : X.env.scope.names.lookup x = some .local := by rfl) (hy : X.env.scope.names.lookup y = some .local := by rfl)
    (hs1 : starEach [a, b] X.env = (false, eval a X.env) :: starEach [b] X.env := by rfl) (hs2 : starEach [b] X.env = [(false, eval b X.env)] := by rfl)
    (hw : swappedStores [.Tuple [.Name x px, .Name y py] kt pt] (.Tuple [a, b] k2 pt2) X.env = pure (some [x, y]) := by rfl) (hs : swapsWithSole [.Tuple [.Name x px, .Name y py] kt pt] (.Tuple [a, b] k2 pt2) pos.line X.env = pure false := by rfl) :
    PS X (.Assign [.Tuple [.Name x px, .Name y py] kt pt] (.Tuple [a, b] k2 pt2) pos) (rdS S B M W (sPr2 i k fa fb)) := s_pr2 hc hN hi hk hik hx hy ha hb hs1 hs2 hw hs
theorem zPr3 (i k l : Nat) (hN : X.N.Nodup) (ha : PE X a (rdE S B M W (clOf M i) fa)) (hb : PE X b (rdE S B M W (clOf M k) fb)) (hcc : PE X c (rdE S B M W (clOf M l) fc)) (hc : X.calm = true := by rfl) (hi : X.N[i]? = some x := by rfl) (hk : X.N[k]? = some y := by rfl) (hl : X.N[l]? = some z := by rfl) (hik : i ≠ k := by decide) (hil : i ≠ l := by decide) (hkl : k ≠ l := by decide) (hx : X.env.scope.names.lookup x = some .local := by rfl) (hy : X.env.scope.names.lookup y = some .local := by rfl) (hz : X.env.scope.names.lookup z = some .local := by rfl)
    (hs1 : starEach [a, b, c] X.env = (false, eval a X.env) :: starEach [b, c] X.env := by rfl) (hs2 : starEach [b, c] X.env = (false, eval b X.env) :: starEach [c] X.env := by rfl) (hs3 : starEach [c] X.env = [(false, eval c X.env)] := by rfl)
    (hw : swappedStores [.Tuple [.Name x px, .Name y py, .Name z pz] kt pt] (.Tuple [a, b, c] k2 pt2) X.env = pure (some [x, y, z]) := by rfl) (hs : swapsWithSole [.Tuple [.Name x px, .Name y py, .Name z pz] kt pt] (.Tuple [a, b, c] k2 pt2) pos.line X.env = pure false := by rfl) :
    PS X (.Assign [.Tuple [.Name x px, .Name y py, .Name z pz] kt pt] (.Tuple [a, b, c] k2 pt2) pos) (rdS S B M W (sPr3 i k l fa fb fc)) := s_pr3 hc hN hi hk hl hik hil hkl hx hy hz ha hb hcc hs1 hs2 hs3 hw hs
theorem clO {i : Nat} (h : PE X e (rdE S B M W .fresh fe)) (hM : M i = true := by rfl) : PE X e (rdE S B M W (clOf M i) fe) := by unfold clOf; rw [hM]; exact h
theorem clC {i : Nat} (h : PE X e (rdE S B M W .clean fe)) (hM : M i = false := by rfl) : PE X e (rdE S B M W (clOf M i) fe) := by unfold clOf; rw [hM]; exact h
theorem mtN (i : Nat) (n : X.N[i]? = some x := by rfl) (v : Vis X.env.scope x := by first | exact Or.inl rfl | exact Or.inr (Or.inl rfl) | exact Or.inr (Or.inr rfl)) (d : (x == ("__debug__" : Str)) = false := by decide) (c : (x == ("__classdict__" : Str)) = false := by decide) : MtN X i x := ⟨n, v, d, c⟩
theorem zApp (i : Nat) (he : PE X e (rdE S B M W .clean fe)) (hx : MtN X i x := by exact mtN _) (hM : M i = true := by rfl) (hl : (ap.endLine == p.line) = true := by rfl) (hs : starEach [e] X.env = [(false, eval e X.env)] := by rfl)
    (hb : attributeBase (.Name x np) "append" X.env (eval (.Name x np) X.env) = eval (.Name x np) X.env := by rfl) (hf : ((backTo p (starEach [e] X.env)).all (fun x => !x.1) && (backToKw p (keywordEach [] X.env)).all (fun x => x.1.isSome)
      && decide (([e] : List Expr).length + ([] : List Keyword).length + (if ([] : List Keyword).isEmpty then 0 else 1) < 30)) = true := by rfl) (hsw : swapsWith (.Call (.Attribute (.Name x np) "append" ap) [e] [] p) none pos.line X.env = pure false := by rfl) :
    PS X (.Expr (.Call (.Attribute (.Name x np) "append" ap) [e] [] p) pos) (rdS S B M W (sApp i fe)) := s_app hM hx he hl hs hb hf hsw
theorem zExt (i : Nat) (he : PE X e (rdE S B M W .clean fe)) (hx : MtN X i x := by exact mtN _) (hM : M i = true := by rfl) (hl : (ap.endLine == p.line) = true := by rfl) (hs : starEach [e] X.env = [(false, eval e X.env)] := by rfl)
    (hb : attributeBase (.Name x np) "extend" X.env (eval (.Name x np) X.env) = eval (.Name x np) X.env := by rfl) (hf : ((backTo p (starEach [e] X.env)).all (fun x => !x.1) && (backToKw p (keywordEach [] X.env)).all (fun x => x.1.isSome)
      && decide (([e] : List Expr).length + ([] : List Keyword).length + (if ([] : List Keyword).isEmpty then 0 else 1) < 30)) = true := by rfl) (hsw : swapsWith (.Call (.Attribute (.Name x np) "extend" ap) [e] [] p) none pos.line X.env = pure false := by rfl) :
    PS X (.Expr (.Call (.Attribute (.Name x np) "extend" ap) [e] [] p) pos) (rdS S B M W (sExt i fe)) := s_ext hM hx he hl hs hb hf hsw
theorem zAppPop (i k : Nat) (he : PE X e (rdE S B M W .mix fe)) (hx : MtN X i x := by exact mtN _) (hy : MtN X k y := by exact mtN _) (hMi : M i = true := by rfl) (hMk : M k = true := by rfl) (hl : (ap.endLine == p.line) = true := by rfl) (hl2 : (ap2.endLine == p2.line) = true := by rfl)
    (hs : starEach [.Call (.Attribute (.Name y np2) "pop" ap2) [e] [] p2] X.env = [(false, eval (.Call (.Attribute (.Name y np2) "pop" ap2) [e] [] p2) X.env)] := by rfl) (hs2 : starEach [e] X.env = [(false, eval e X.env)] := by rfl)
    (hb : attributeBase (.Name x np) "append" X.env (eval (.Name x np) X.env) = eval (.Name x np) X.env := by rfl) (hb2 : attributeBase (.Name y np2) "pop" X.env (eval (.Name y np2) X.env) = eval (.Name y np2) X.env := by rfl)
    (hf : ((backTo p (starEach [.Call (.Attribute (.Name y np2) "pop" ap2) [e] [] p2] X.env)).all (fun x => !x.1) && (backToKw p (keywordEach [] X.env)).all (fun x => x.1.isSome)
      && decide (([.Call (.Attribute (.Name y np2) "pop" ap2) [e] [] p2] : List Expr).length + ([] : List Keyword).length + (if ([] : List Keyword).isEmpty then 0 else 1) < 30)) = true := by rfl)
    (hf2 : ((backTo p2 (starEach [e] X.env)).all (fun x => !x.1) && (backToKw p2 (keywordEach [] X.env)).all (fun x => x.1.isSome)
      && decide (([e] : List Expr).length + ([] : List Keyword).length + (if ([] : List Keyword).isEmpty then 0 else 1) < 30)) = true := by rfl)
    (hsw : swapsWith (.Call (.Attribute (.Name x np) "append" ap) [.Call (.Attribute (.Name y np2) "pop" ap2) [e] [] p2] [] p) none pos.line X.env = pure false := by rfl) :
    PS X (.Expr (.Call (.Attribute (.Name x np) "append" ap) [.Call (.Attribute (.Name y np2) "pop" ap2) [e] [] p2] [] p) pos) (rdS S B M W (sAppPop i k fe)) := s_appPop hMi hMk hx hy he hl hl2 hs hs2 hb hb2 hf hf2 hsw
theorem zPopTo (i : Nat) (hg : PG X tg (rdG S B M false ks γ)) (hx : MtN X i x := by exact mtN _) (hM : M i = true := by rfl) (hl : (ap.endLine == p.line) = true := by rfl) (hb : attributeBase (.Name x np) "pop" X.env (eval (.Name x np) X.env) = eval (.Name x np) X.env := by rfl)
    (hs : swapsWithSole [tg] (.Call (.Attribute (.Name x np) "pop" ap) [] [] p) pos.line X.env = pure false := by rfl) (hw : swappedStores [tg] (.Call (.Attribute (.Name x np) "pop" ap) [] [] p) X.env = pure none := by rfl)
    (h1 : (assignEach [tg] X.env).map (·.2) = [assign tg X.env] := by rfl) : PS X (.Assign [tg] (.Call (.Attribute (.Name x np) "pop" ap) [] [] p) pos) (rdS S B M W (sPopTo i γ)) := s_popTo (ap2 := ap) (np2 := np) hM hx hg hl hb hs hw h1
theorem zSetIx (i : Nat) (he : PE X e (rdE S B M W .clean fe)) (hk : PE X ek (rdE S B M W .mix fk)) (hx : MtN X i x := by exact mtN _) (hM : M i = true := by rfl) (hs : swapsWithSole [.Subscript (.Name x np) ek p] e pos.line X.env = pure false := by rfl) (hw : swappedStores [.Subscript (.Name x np) ek p] e X.env = pure none := by rfl)
    (h1 : (assignEach [.Subscript (.Name x np) ek p] X.env).map (·.2) = [assign (.Subscript (.Name x np) ek p) X.env] := by rfl)
    (ha : ∀ v, assign (.Subscript (.Name x np) ek p) X.env v = (do
      let ov ← holding [v] (eval (.Name x np) X.env)
      let iv ← holding [v, ov] (eval ek X.env)
      standAt p
      holding [v, ov, iv] (setItem ov iv v)
      release [v, ov, iv] []) := by intro _; rfl) :
    PS X (.Assign [.Subscript (.Name x np) ek p] e pos) (rdS S B M W (sSetIx i fk fe)) := s_setIx hM hx he hk hs hw h1 ha
variable {fb2 : Sv J} {fi : Iv J} {w : Bool}
theorem zWhile (hc : PT X c (rdT S B M W tc)) (hb : PSs X body (rdS S B M W fs)) (hp : PassesOwn (model X.prog X.w) X.A X.env X.xe := by exact PassesOwn.never) : PS X (.While c body [] pos) (rdS S B M W (sWhile tc fs)) := s_while hp hc hb
theorem zFor (hi : PI X tg iter (rdI S B M W true w fi)) (hg : PG X tg (rdG S B M w ks γ)) (hb : PSs X body (rdS S B M W fs)) (hp : PassesOwn (model X.prog X.w) X.A X.env X.xe := by exact PassesOwn.never) (hc : X.calm = true := by rfl) (hs : ∀ x, foldedSetIterable iter X.env x = pure x := by intro _; rfl) :
    PS X (.For tg iter body [] pos) (rdS S B M W (sFor fi γ fs)) := s_for hp hc hi hg hb hs
end
end Mp

/-! MpK: the built-in functions, for printed terms. -/
namespace Mp
open PySem PySem.Spec L2
open PyProof.Rows hiding St
variable {J : Type}
theorem bt_len : bootBuiltins "len" = some (.builtin "len") := by decide +kernel
theorem bt_sum : bootBuiltins "sum" = some (.builtin "sum") := by decide +kernel
theorem bt_abs : bootBuiltins "abs" = some (.builtin "abs") := by decide +kernel
theorem bt_max : bootBuiltins "max" = some (.builtin "max") := by decide +kernel
theorem bt_min : bootBuiltins "min" = some (.builtin "min") := by decide +kernel
theorem bt_repr : bootBuiltins "repr" = some (.builtin "repr") := by decide +kernel
theorem bt_all : bootBuiltins "all" = some (.builtin "all") := by decide +kernel
theorem bt_sorted : bootBuiltins "sorted" = some (.builtin "sorted") := by decide +kernel
theorem bt_tuple : bootBuiltins "tuple" = some (.type "tuple") := by decide +kernel
theorem bt_list : bootBuiltins "list" = some (.type "list") := by decide +kernel
theorem bt_int : bootBuiltins "int" = some (.type "int") := by decide +kernel
theorem bt_str : bootBuiltins "str" = some (.type "str") := by decide +kernel
section
variable {S : Js J} {B : Bs} {M : Nat → Bool} {W : WX} {X : Cx} {e : Expr} {es : List Expr} {pos p : Pos} {fr : Av J} {ci : Bool}
theorem kLen (hK : X.K = S.K) (hm : X.mg "len" = none) (ha : PA X (e :: es) (rdA S B M W ci fr)) (hg : Gl X "len" := by rfl) (he : starEach (e :: es) X.env = (false, eval e X.env) :: starEach es X.env := by rfl) (hpl : (backTo pos (starEach es X.env)).any (·.1) = false := by rfl) :
    PE X (.Call (.Name "len" p) (e :: es) [] pos) (rdE S B M W .clean (eB lenB fr)) := kB cr_lenD (by rw [hK]; exact s_len) hm bt_len ha hg (by decide) (by decide) he hpl
theorem kSum (hK : X.K = S.K) (hm : X.mg "sum" = none) (ha : PA X (e :: es) (rdA S B M W ci fr)) (hg : Gl X "sum" := by rfl) (hc : X.calm = true := by rfl) (he : starEach (e :: es) X.env = (false, eval e X.env) :: starEach es X.env := by rfl) (hpl : (backTo pos (starEach es X.env)).any (·.1) = false := by rfl) :
    PE X (.Call (.Name "sum" p) (e :: es) [] pos) (rdE S B M W .clean (eB sumB fr)) := kB (cr_sumD hc) (by rw [hK]; exact s_sum) hm bt_sum ha hg (by decide) (by decide) he hpl
theorem kAbs (hm : X.mg "abs" = none) (ha : PA X (e :: es) (rdA S B M W ci fr)) (hg : Gl X "abs" := by rfl) (he : starEach (e :: es) X.env = (false, eval e X.env) :: starEach es X.env := by rfl) (hpl : (backTo pos (starEach es X.env)).any (·.1) = false := by rfl) :
    PE X (.Call (.Name "abs" p) (e :: es) [] pos) (rdE S B M W .clean (eB absB fr)) := kB call_abs s_abs hm bt_abs ha hg (by decide) (by decide) he hpl
theorem kMax (hK : X.K = S.K) (hm : X.mg "max" = none) (ha : PA X (e :: es) (rdA S B M W ci fr)) (hg : Gl X "max" := by rfl) (hc : X.calm = true := by rfl) (he : starEach (e :: es) X.env = (false, eval e X.env) :: starEach es X.env := by rfl) (hpl : (backTo pos (starEach es X.env)).any (·.1) = false := by rfl) :
    PE X (.Call (.Name "max" p) (e :: es) [] pos) (rdE S B M W .clean (eB maxB fr)) := kB (cr_maxD hc) (by rw [hK]; exact s_max) hm bt_max ha hg (by decide) (by decide) he hpl
theorem kMin (hK : X.K = S.K) (hm : X.mg "min" = none) (ha : PA X (e :: es) (rdA S B M W ci fr)) (hg : Gl X "min" := by rfl) (hc : X.calm = true := by rfl) (he : starEach (e :: es) X.env = (false, eval e X.env) :: starEach es X.env := by rfl) (hpl : (backTo pos (starEach es X.env)).any (·.1) = false := by rfl) :
    PE X (.Call (.Name "min" p) (e :: es) [] pos) (rdE S B M W .clean (eB minB fr)) := kB (cr_minD hc) (by rw [hK]; exact s_min) hm bt_min ha hg (by decide) (by decide) he hpl
theorem kRepr (hK : X.K = S.K) (hgd : X.A.guards = some []) (hu : X.A.units + 64 < cLine) (hm : X.mg "repr" = none) (ha : PA X (e :: es) (rdA S B M W ci fr)) (hg : Gl X "repr" := by rfl) (he : starEach (e :: es) X.env = (false, eval e X.env) :: starEach es X.env := by rfl) (hpl : (backTo pos (starEach es X.env)).any (·.1) = false := by rfl) :
    PE X (.Call (.Name "repr" p) (e :: es) [] pos) (rdE S B M W .clean (eB reprB fr)) := kB (cr_repr hK hgd hu) s_repr hm bt_repr ha hg (by decide) (by decide) he hpl
theorem kAll (hK : X.K = S.K) (hm : X.mg "all" = none) (ha : PA X (e :: es) (rdA S B M W ci fr)) (hg : Gl X "all" := by rfl) (hc : X.calm = true := by rfl) (he : starEach (e :: es) X.env = (false, eval e X.env) :: starEach es X.env := by rfl) (hpl : (backTo pos (starEach es X.env)).any (·.1) = false := by rfl) :
    PE X (.Call (.Name "all" p) (e :: es) [] pos) (rdE S B M W .clean (eB allB fr)) := kB (cr_all hc) (by rw [hK]; exact s_all) hm bt_all ha hg (by decide) (by decide) he hpl
theorem kSorted (hK : X.K = S.K) (hm : X.mg "sorted" = none) (ha : PA X (e :: es) (rdA S B M W ci fr)) (hg : Gl X "sorted" := by rfl) (he : starEach (e :: es) X.env = (false, eval e X.env) :: starEach es X.env := by rfl) (hpl : (backTo pos (starEach es X.env)).any (·.1) = false := by rfl) :
    PE X (.Call (.Name "sorted" p) (e :: es) [] pos) (rdE S B M W .fresh (eB sortedB fr)) := kB cr_sortedI (by rw [hK]; exact s_sorted) hm bt_sorted ha hg (by decide) (by decide) he hpl
theorem kTupC (hK : X.K = S.K) (hm : X.mg "tuple" = none) (ha : PA X (e :: es) (rdA S B M W true fr)) (hg : Gl X "tuple" := by rfl) (he : starEach (e :: es) X.env = (false, eval e X.env) :: starEach es X.env := by rfl) (hpl : (backTo pos (starEach es X.env)).any (·.1) = false := by rfl) :
    PE X (.Call (.Name "tuple" p) (e :: es) [] pos) (rdE S B M W .clean (eB tupleB fr)) := kT (ci := true) call_tupleF (by rw [hK]; exact s_tuple) hm bt_tuple ha hg (by decide) (by decide) he hpl
theorem kTupX (hK : X.K = S.K) (hm : X.mg "tuple" = none) (ha : PA X (e :: es) (rdA S B M W false fr)) (hg : Gl X "tuple" := by rfl) (he : starEach (e :: es) X.env = (false, eval e X.env) :: starEach es X.env := by rfl) (hpl : (backTo pos (starEach es X.env)).any (·.1) = false := by rfl) :
    PE X (.Call (.Name "tuple" p) (e :: es) [] pos) (rdE S B M W .mix (eB tupleB fr)) := kT (ci := false) call_tupleF (by rw [hK]; exact s_tuple) hm bt_tuple ha hg (by decide) (by decide) he hpl
theorem kLstF (hK : X.K = S.K) (hm : X.mg "list" = none) (ha : PA X (e :: es) (rdA S B M W true fr)) (hg : Gl X "list" := by rfl) (he : starEach (e :: es) X.env = (false, eval e X.env) :: starEach es X.env := by rfl) (hpl : (backTo pos (starEach es X.env)).any (·.1) = false := by rfl) :
    PE X (.Call (.Name "list" p) (e :: es) [] pos) (rdE S B M W .fresh (eB listB fr)) := kT (ci := true) call_list_of (by rw [hK]; exact s_list) hm bt_list ha hg (by decide) (by decide) he hpl
theorem kInt (hm : X.mg "int" = none) (ha : PA X (e :: es) (rdA S B M W ci fr)) (hg : Gl X "int" := by rfl) (he : starEach (e :: es) X.env = (false, eval e X.env) :: starEach es X.env := by rfl) (hpl : (backTo pos (starEach es X.env)).any (·.1) = false := by rfl) :
    PE X (.Call (.Name "int" p) (e :: es) [] pos) (rdE S B M W .clean (eB intB fr)) := kT call_int1 s_int hm bt_int ha hg (by decide) (by decide) he hpl
end
end Mp

/-! MpP: isinstance, in, constants of the module, items and parts of an owned list, pop. -/
namespace Mp
open PySem PySem.Spec L2
open PyProof.Rows hiding St
variable {J : Type}
theorem bt_bool : bootBuiltins "bool" = some (.type "bool") := by decide +kernel
theorem bt_dict : bootBuiltins "dict" = some (.type "dict") := by decide +kernel
theorem hv_of {A : Around} {k : Nat} (hr : Room k A) : A.units + 65 < cLine := by have := hr.un; omega
/-! ### isinstance(e, T), T a built-in type -/
def tyD : D → Option String
  | .non => some "NoneType"
  | .bl _ => some "bool"
  | .int _ => some "int"
  | .str _ => some "str"
  | .tup _ => some "tuple"
  | .lst _ => some "list"
  | .dct _ => some "dict"
  | _ => none
def isiD (T : String) (d : D) : Option D := match tyD d with
  | some t => match kitB t T with | some b => some (.bl b) | none => none
  | none => none
section
variable {S : Js J} {B : Bs} {M : Nat → Bool} {W : WX} {X : Cx} {e a b : Expr} {pos p p2 : Pos} {fe fa fb : Ev J} {x : Str}
theorem ty_of {G H : Hp} {d : D} {v : V} {t : String} (h : Rp S G d v) (gh : Same G H) (e : tyD d = some t) : TyX S.K H v (.type t) := by
  cases h with
  | non => cases e; exact .base .non
  | bl b => cases e; exact .base (.bl b)
  | int i => cases e; exact .base (.int i)
  | str y => cases e; exact .base (.str y)
  | tup h _ =>
    cases e
    rcases h with ⟨o, h, _⟩ | ⟨o, its, n, h1, h2, _⟩
    · exact .fTuple (gh _ _ h)
    · exact .kTuple h1 h2
  | lst h _ => cases e; exact .base (.lst (gh _ _ h))
  | dct h _ _ => cases e; exact .base (.dK (gh _ _ h))
  | jar => cases e
  | obj _ => cases e
  | ins _ _ _ => cases e
  | dtp _ _ _ => cases e
theorem e_isi {T : String} (hK : X.K = S.K) (hmi : X.mg "isinstance" = none) (hm : X.mg x = none) (hv : bootBuiltins x = some (.type T)) (he : PE X e (rdE S B M W .mix fe)) (hgi : Gl X "isinstance" := by rfl) (hg : Gl X x := by rfl) (hn : x ≠ "__name__" := by decide) (hd : (x == ("__debug__" : Str)) = false := by decide)
    (hs : starEach [e, .Name x p2] X.env = (false, eval e X.env) :: starEach [.Name x p2] X.env := by rfl) (hpl : (backTo pos (starEach [.Name x p2] X.env)).any (·.1) = false := by rfl) :
    PE X (.Call (.Name "isinstance" p) [e, .Name x p2] [] pos) (rdE S B M W .clean (eUn (isiD T) fe)) :=
  PE.imp (pe_callB call_isi hgi hmi (by decide +kernel) (pa_cons he (pa_cons (pe_bltn (v := .ty T) hg hm hv rfl hn hd) pa_nil rfl) hs) (by decide) (by decide) hs hpl) fun r H Q ⟨g, m, j, P, E, ok, hf, q, xo⟩ => by
    refine ⟨g, m, j, _, E, ok, hf, fun d1 j1 g1 v H1 hh l1 ok1 w => ?_, xo⟩
    obtain ⟨z, h2, p⟩ := hh
    unfold isiD at h2
    split at h2
    · rename_i t ht
      split at h2
      · rename_i bb hb
        cases h2
        exact ⟨v, .ty T, .type t, .type T, bb, rfl, .ty T, by rw [hK]; exact ty_of w ok1.b.gh ht, kit_ty hb, q _ _ g1 _ H1 p l1 ok1 (.bl _)⟩
      · cases h2
    · cases h2
/-! ### x in xs, a list or a tuple of plain data -/
def inB (x y : D) : Option Bool := match py x, py y with
  | some p, some (.list ds) => if SeqAt.shaped p && SeqAt.shaped (.list ds) then some (ds.any fun z => PyData.eqv z p) else none
  | some p, some (.tuple ds) => if SeqAt.shaped p && SeqAt.shaped (.tuple ds) then some (ds.any fun z => PyData.eqv z p) else none
  | _, _ => none
def inD (x y : D) : Option D := match inB x y with | some b => some (.bl b) | none => none
def ninD (x y : D) : Option D := match inB x y with | some b => some (.bl (!b)) | none => none
def rInTu (K : PySem.W.Frag) : R2 := fun x y H Q => ∃ d ds, Dp K H x d ∧ Dp K H y (.tuple ds) ∧ SeqAt.shaped d = true ∧ SeqAt.shaped (.tuple ds) = true ∧ Q (.bl (ds.any fun z => PyData.eqv z d)) H
def rNotInTu (K : PySem.W.Frag) : R2 := fun x y H Q => ∃ d ds, Dp K H x d ∧ Dp K H y (.tuple ds) ∧ SeqAt.shaped d = true ∧ SeqAt.shaped (.tuple ds) = true ∧ Q (.bl (!ds.any fun z => PyData.eqv z d)) H
theorem op_inTu (hu : X.A.units + 65 < cLine) : OpR X (compareOp .In) (rInTu X.K) := by
  intro pins s σ H x y v u Q I rx ry h
  obtain ⟨d, ds, hd, he, sd, se, q⟩ := h
  obtain ⟨as, a1⟩ := Dp.reads I d x v hd rx
  obtain ⟨bs, a2⟩ := Dp.reads I (.tuple ds) y u he ry
  exact SeqAt.in_tuple_reads a2 a1 (SeqAt.canLay_of_shaped se) (SeqAt.canLay_of_shaped sd) (room_in_shaped sd hu) ⟨.bl _, H, I, rfl, q⟩
theorem op_notInTu (hu : X.A.units + 65 < cLine) : OpR X (compareOp .NotIn) (rNotInTu X.K) := by
  intro pins s σ H x y v u Q I rx ry h
  obtain ⟨d, ds, hd, he, sd, se, q⟩ := h
  obtain ⟨as, a1⟩ := Dp.reads I d x v hd rx
  obtain ⟨bs, a2⟩ := Dp.reads I (.tuple ds) y u he ry
  exact SeqAt.notIn_tuple_reads a2 a1 (SeqAt.canLay_of_shaped se) (SeqAt.canLay_of_shaped sd) (room_in_shaped sd hu) ⟨.bl _, H, I, rfl, q⟩
theorem inB_cases {F : Hp} {d1 d2 : D} {v1 v2 : V} {b : Bool} (h1 : Rp S F d1 v1) (h2 : Rp S F d2 v2) (e : inB d1 d2 = some b) :
    (∃ p ds, Dp S.K F v1 p ∧ Dp S.K F v2 (.list ds) ∧ SeqAt.shaped p = true ∧ SeqAt.shaped (.list ds) = true ∧ (ds.any fun z => PyData.eqv z p) = b) ∨
    ∃ p ds, Dp S.K F v1 p ∧ Dp S.K F v2 (.tuple ds) ∧ SeqAt.shaped p = true ∧ SeqAt.shaped (.tuple ds) = true ∧ (ds.any fun z => PyData.eqv z p) = b := by
  unfold inB at e
  split at e
  · split at e
    · rename_i p ds hp hq hs
      rw [Bool.and_eq_true] at hs
      cases e
      exact .inl ⟨p, ds, dp_of h1 hp (noDict hs.1), dp_of h2 hq (noDict hs.2), hs.1, hs.2, rfl⟩
    · cases e
  · split at e
    · rename_i p ds hp hq hs
      rw [Bool.and_eq_true] at hs
      cases e
      exact .inr ⟨p, ds, dp_of h1 hp (noDict hs.1), dp_of h2 hq (noDict hs.2), hs.1, hs.2, rfl⟩
    · cases e
  · cases e
theorem s_in {ci : Bool} : OpS S (fun x y H Q => rInD S.K x y H Q ∨ rInTu S.K x y H Q) inD ci .clean := by
  intro B g H j d1 d2 d v1 v2 Q ok h1 h2 e q
  unfold inD at e
  split at e
  · rename_i b he
    cases e
    rcases inB_cases h1 h2 he with ⟨p, ds, c1, c2, c3, c4, c5⟩ | ⟨p, ds, c1, c2, c3, c4, c5⟩
    · exact .inl ⟨p, ds, Dp_mono (ok.sub ci) c1, Dp_mono (ok.sub ci) c2, c3, c4, by rw [c5]; exact ans (B := B) ok q fun _ => .bl _⟩
    · exact .inr ⟨p, ds, Dp_mono (ok.sub ci) c1, Dp_mono (ok.sub ci) c2, c3, c4, by rw [c5]; exact ans (B := B) ok q fun _ => .bl _⟩
  · cases e
theorem s_notIn {ci : Bool} : OpS S (fun x y H Q => rNotInD S.K x y H Q ∨ rNotInTu S.K x y H Q) ninD ci .clean := by
  intro B g H j d1 d2 d v1 v2 Q ok h1 h2 e q
  unfold ninD at e
  split at e
  · rename_i b he
    cases e
    rcases inB_cases h1 h2 he with ⟨p, ds, c1, c2, c3, c4, c5⟩ | ⟨p, ds, c1, c2, c3, c4, c5⟩
    · exact .inl ⟨p, ds, Dp_mono (ok.sub ci) c1, Dp_mono (ok.sub ci) c2, c3, c4, by rw [c5]; exact ans (B := B) ok q fun _ => .bl _⟩
    · exact .inr ⟨p, ds, Dp_mono (ok.sub ci) c1, Dp_mono (ok.sub ci) c2, c3, c4, by rw [c5]; exact ans (B := B) ok q fun _ => .bl _⟩
  · cases e
theorem kIn (hK : X.K = S.K) (hu : X.A.units + 65 < cLine) : OpR X (compareOp .In) (fun x y H Q => rInD S.K x y H Q ∨ rInTu S.K x y H Q) := hK ▸ (op_inD hu).or (op_inTu hu)
theorem kNotIn (hK : X.K = S.K) (hu : X.A.units + 65 < cLine) : OpR X (compareOp .NotIn) (fun x y H Q => rNotInD S.K x y H Q ∨ rNotInTu S.K x y H Q) := hK ▸ (op_notInD hu).or (op_notInTu hu)
theorem eIn {op : CmpOp} {r : R2} {φ : D → D → Option D} (hr : OpR X (compareOp op) r) (ho : OpS S r φ false .clean) (ha : PE X a (rdE S B M W .mix fa)) (hb : PE X b (rdE S B M W .mix fb)) (h : behindInMarks op b = false := by rfl) : PE X (.Compare a [op] [b] pos) (rdE S B M W .clean (eOp φ fa fb)) := e_cmp (ci := false) hr ho ha hb h
theorem tIn {op : CmpOp} {r : R2} {φ : D → D → Option D} (hr : OpR X (compareOp op) r) (ho : OpS S r φ false .clean) (ha : PE X a (rdE S B M W .mix fa)) (hb : PE X b (rdE S B M W .mix fb)) (h : behindInMarks op b = false := by rfl) : PT X (.Compare a [op] [b] pos) (rdT S B M W (tBl (eOp φ fa fb))) := t_cmp (ci := false) hr ho ha hb h
/-! ### constants of the module -/
theorem gI {i : Int} (hm : ∃ t, X.mg x = some (.int i t)) (hg : Gl X x := by rfl) (hd : (x == ("__debug__" : Str)) = false := by decide) : PE X (.Name x pos) (rdE S B M W .clean (eC (.int i))) := by
  obtain ⟨t, h⟩ := hm
  exact e_c (pe_glob (v := .int i) hg h ⟨t, rfl⟩ hd) fun _ => .int _
theorem gS {i : Str} (hm : ∃ t, X.mg x = some (.str i t)) (hg : Gl X x := by rfl) (hd : (x == ("__debug__" : Str)) = false := by decide) : PE X (.Name x pos) (rdE S B M W .clean (eC (.str i))) := by
  obtain ⟨t, h⟩ := hm
  exact e_c (pe_glob (v := .str i) hg h ⟨t, rfl⟩ hd) fun _ => .str _
/-! ### items and parts of an owned list: they are frozen -/
/-- the name i as a frozen value, where it is an owned list: not a copy, so for reading parts alone -/
theorem ixO {i : Nat} {np : Pos} (hK : X.K = S.K) (hb : PE X b (rdE S B M W .mix fb)) (hx : MtN X i x := by exact mtN _) (hM : M i = true := by rfl) (hs : PlainIx b := by intro _ _; rfl) : PE X (.Subscript (.Name x np) b pos) (rdE S B M W .clean (eOp idxD (eVar i) fb)) :=
  PE.imp (pe_ix ix_list hx.pe hb hs) fun R H Q ⟨g, m, j, P, E, ok, ⟨d0, h0, hf⟩, q, xo⟩ => by
    obtain ⟨a, hr, ho⟩ := ok.s.ow i _ h0 hM
    refine ⟨_, hr, g, m, j, _, E, ok, hf, fun y j2 g1 v H1 hh l1 ok1 w => ?_, xo⟩
    obtain ⟨z, h3, p⟩ := hh
    unfold idxD at h3
    split at h3
    · rename_i xs k
      obtain ⟨_, vs, hG, t⟩ := own_lst (ho.le l1)
      obtain ⟨v', e1, e2⟩ := t.atI h3
      exact ⟨a, vs, k, v', rfl, int_of w, .of (ok1.b.gh _ _ hG), e1, q _ _ g1 v' H1 p l1 ok1 e2⟩
    · obtain ⟨_, ⟨_, _, e, _⟩ | ⟨_, _, e, _⟩ | ⟨_, _, e, _⟩⟩ := ho <;> cases e
    · obtain ⟨_, ⟨_, _, e, _⟩ | ⟨_, _, e, _⟩ | ⟨_, _, e, _⟩⟩ := ho <;> cases e
    · cases h3
/-- a part of an owned list: a new list -/
theorem slO {i : Nat} {np : Pos} {lo hi : Option Expr} {fl fh : Pv J} (hK : X.K = S.K) (hl : PO X lo (rdP S B M W fl)) (hh : PO X hi (rdP S B M W fh)) (hx : MtN X i x := by exact mtN _) (hM : M i = true := by rfl) : PE X (.Subscript (.Name x np) (.Slice lo hi none p2) pos) (rdE S B M W .fresh (eSl sliceL (eVar i) fl fh)) :=
  PE.imp (pe_slice sl_list hx.pe hl hh) fun R H Q ⟨g, m, j, P, E, ok, ⟨d0, h0, hf⟩, q, xo⟩ => by
    obtain ⟨a, hr, ho⟩ := ok.s.ow i _ h0 hM
    refine ⟨_, hr, g, m, j, _, E, ok, hf, fun l2 j2 g1 H1 h2 l1 ok1 => ⟨g1, m, _, _, E, ok1, h2, fun l3 j3 g2 H2 hh l2' ok2 => ?_, xo.le l1.f⟩, xo⟩
    obtain ⟨z, h4, p⟩ := hh
    unfold sliceL at h4
    split at h4
    · rename_i xs
      cases h4
      obtain ⟨_, vs, hG, t⟩ := own_lst (ho.le (l1.trans l2'))
      refine ⟨a, vs, rfl, .of (ok2.b.gh _ _ hG), fun pp hp => ?_⟩
      obtain ⟨n1, n2, n3, n4⟩ := ok2.b.hn hp
      refine q _ _ (g2.see pp (.lst (cutV vs l2 l3))) _ _ p ((l1.trans l2').trans (Le.see n2)) ⟨ok2.b.see _ hp, ok2.s.le (Le.see n2)⟩ ⟨pp, rfl, (l1.trans l2').g.free n2, n1, .inl ⟨_, _, rfl, upd_same, ?_⟩⟩
      show RpL S g2.F (cutD xs l2 l3) (cutV vs l2 l3)
      unfold cutD cutV
      rw [← t.length]
      exact (t.drop _).take _
    · cases h4
/-- tuple(xs), list(xs) of an owned list -/
theorem tuO {i : Nat} {np : Pos} (hm : X.mg "tuple" = none) (hx : MtN X i x := by exact mtN _) (hM : M i = true := by rfl) (hg : Gl X "tuple" := by rfl) (he : starEach [.Name x np] X.env = [(false, eval (.Name x np) X.env)] := by rfl) :
    PE X (.Call (.Name "tuple" p) [.Name x np] [] pos) (rdE S B M W .clean (eB tupleB (aCons (eVar i) aNil))) :=
  PE.imp (pe_callTy call_tupleF hg hm bt_tuple (pa_cons hx.pe pa_nil he) (by decide) (by decide) he rfl) fun R H Q ⟨g, m, j, P, E, ok, ⟨d0, h0, z, hz, pz⟩, q, xo⟩ => by
    obtain ⟨a, hr, ho⟩ := ok.s.ow i _ h0 hM
    obtain ⟨hF, ⟨ds, vs, rfl, e, t⟩ | ⟨kds, kvs, rfl, _⟩ | ⟨kds, kvs, rfl, _⟩⟩ := ho
    · cases hz
      refine ⟨_, hr, a, vs, rfl, .inl ⟨.of (ok.b.gh _ _ e), fun p o hp hd => ?_⟩⟩
      obtain ⟨n1, n2, n3, n4⟩ := ok.b.hn hp
      exact q _ _ (g.frz p (.frz o (.tup vs))) _ _ pz (Le.frz ok.b.fg n2) ⟨ok.b.frz _ hp, ok.s.le (Le.frz ok.b.fg n2)⟩ (Rp.tup (.inl ⟨o, upd_same, hd⟩) (t.mono (same_new n1)))
    · cases hz
    · cases hz
theorem liO {i : Nat} {np : Pos} (hm : X.mg "list" = none) (hx : MtN X i x := by exact mtN _) (hM : M i = true := by rfl) (hg : Gl X "list" := by rfl) (he : starEach [.Name x np] X.env = [(false, eval (.Name x np) X.env)] := by rfl) :
    PE X (.Call (.Name "list" p) [.Name x np] [] pos) (rdE S B M W .fresh (eB listB (aCons (eVar i) aNil))) :=
  PE.imp (pe_callTy call_list_of hg hm bt_list (pa_cons hx.pe pa_nil he) (by decide) (by decide) he rfl) fun R H Q ⟨g, m, j, P, E, ok, ⟨d0, h0, z, hz, pz⟩, q, xo⟩ => by
    obtain ⟨a, hr, ho⟩ := ok.s.ow i _ h0 hM
    obtain ⟨hF, ⟨ds, vs, rfl, e, t⟩ | ⟨kds, kvs, rfl, _⟩ | ⟨kds, kvs, rfl, _⟩⟩ := ho
    · cases hz
      refine ⟨_, hr, a, vs, rfl, .inl (.of (ok.b.gh _ _ e)), fun p hp => ?_⟩
      obtain ⟨n1, n2, n3, n4⟩ := ok.b.hn hp
      exact q _ _ (g.see p (.lst vs)) _ _ pz (Le.see n2) ⟨ok.b.see _ hp, ok.s.le (Le.see n2)⟩ ⟨p, rfl, n2, n1, .inl ⟨_, _, rfl, upd_same, t⟩⟩
    · cases hz
    · cases hz
end
/-! ### γ = i.pop(e) -/
def sPopAt (i : Nat) (fe : Ev J) (γ : Gv) (m : Sd) (j : J) (P : Fl → Sd → J → Prop) (E : XP J) : Prop :=
  ∃ ys, m[i]? = some (some (.lst ys)) ∧ fe m j (fun d j1 => ∃ n y m1, d = .int n ∧ 0 ≤ n ∧ n < (ys.length : Int) ∧ ys.length ≤ LINE ∧ ys[n.toNat]? = some y ∧ γ y (m.set i (some (.lst (ys.eraseIdx n.toNat)))) = some m1 ∧ P .next m1 j1) E
instance {i : Nat} {fe : Ev J} {γ : Gv} [h1 : MoE fe] : MoS (sPopAt i fe γ) := ⟨fun ⟨ys, e, h⟩ q x => ⟨ys, e, h1.mo h (fun _ _ ⟨n, y, m1, a1, a2, a3, a4, a5, a6, p⟩ => ⟨n, y, m1, a1, a2, a3, a4, a5, a6, q _ _ _ p⟩) x⟩⟩
section
variable {S : Js J} {B : Bs} {M : Nat → Bool} {W : WX} {X : Cx} {e tg : Expr} {pos p np ap : Pos} {fe : Ev J} {x : Str} {γ : Gv} {ks : List Nat}
theorem zPopAt (i : Nat) (he : PE X e (rdE S B M W .mix fe)) (hg : PG X tg (rdG S B M false ks γ)) (hx : MtN X i x := by exact mtN _) (hM : M i = true := by rfl) (hl : (ap.endLine == p.line) = true := by rfl) (hs2 : starEach [e] X.env = [(false, eval e X.env)] := by rfl)
    (hb : attributeBase (.Name x np) "pop" X.env (eval (.Name x np) X.env) = eval (.Name x np) X.env := by rfl)
    (hf2 : ((backTo p (starEach [e] X.env)).all (fun x => !x.1) && (backToKw p (keywordEach [] X.env)).all (fun x => x.1.isSome)
      && decide (([e] : List Expr).length + ([] : List Keyword).length + (if ([] : List Keyword).isEmpty then 0 else 1) < 30)) = true := by rfl)
    (hs : swapsWithSole [tg] (.Call (.Attribute (.Name x np) "pop" ap) [e] [] p) pos.line X.env = pure false := by rfl) (hw : swappedStores [tg] (.Call (.Attribute (.Name x np) "pop" ap) [e] [] p) X.env = pure none := by rfl)
    (h1 : (assignEach [tg] X.env).map (·.2) = [assign tg X.env] := by rfl) : PS X (.Assign [tg] (.Call (.Attribute (.Name x np) "pop" ap) [e] [] p) pos) (rdS S B M W (sPopAt i fe γ)) :=
  PS.imp (ps_asg (pe_bm PySem.F.plainAttrs_list PySem.F.slot_list_pop PySem.F.type_list_pop mt_popAt hx.pe (pa_cons he pa_nil hs2) hb hf2 hl hs2 rfl) hg hs hw h1) fun E r H ⟨g, m, j, P, Ep, ok, ⟨ys, hm, hf⟩, q, xo⟩ => by
    obtain ⟨a, hr, ho⟩ := ok.s.ow i _ hm hM
    obtain ⟨_, ws0, hG0, _⟩ := own_lst ho
    refine ⟨_, hr, .inl ⟨rfl, _, .of (ok.b.gh _ _ hG0)⟩, g, m, j, _, Ep, ok, hf, fun d j1 g1 v H1 hh l1 ok1 w => ?_, xo⟩
    obtain ⟨n, yy, m1, rfl, c1, c2, c4, h4, h5, p⟩ := hh
    obtain ⟨hF, ws, hG, t⟩ := own_lst (ho.le l1)
    obtain ⟨wy, hwy, ry⟩ := t.get h4
    have hlen := t.length
    refine ⟨a, ws, n, n.toNat, wy, rfl, by rw [int_of w], ok1.b.gh _ _ hG, by omega, by have : LINE = 1000000 := rfl; omega, by rw [← hlen]; exact seqIx c1 c2, hwy, ?_⟩
    have ok2 : OkB S B (g1.put a (.lst (ws.eraseIdx n.toNat))) (upd H1 a (.lst (ws.eraseIdx n.toNat))) j1 := ok1.b.put hF hG (by intro x y z; cases z)
    have sl2 : Slots S (g1.put a (.lst (ws.eraseIdx n.toNat))) M r (m.set i (some (.lst (ys.eraseIdx n.toNat)))) := ok1.s.put hM hm hr ⟨hF, .inl ⟨_, _, rfl, upd_same, t.eraseIdx _⟩⟩
    exact ⟨_, _, _, _, _, ⟨ok2, sl2⟩, .inl ry, h5, fun r' ok' _ _ => q _ _ _ p (g1.put a (.lst (ws.eraseIdx n.toNat))) r' _ l1.f ok'⟩
end
section
@[simp] theorem isi_int {i : Int} : isiD "int" (.int i) = some (.bl true) := rfl
@[simp] theorem isi_bool {i : Int} : isiD "bool" (.int i) = some (.bl false) := rfl
@[simp] theorem isi_tup {xs : List D} : isiD "tuple" (.tup xs) = some (.bl true) := rfl
end
end Mp

/-! MpT: sorted, max and min of a tuple of ints. -/
namespace SrtO
open PySem PySem.Spec PyProof.Rows
section
variable {prog : Program} {w : World} {A : Around} {E : Value → Shared → Prop} {s : Shared}
/-- a tuple's items, gathered into a list -/
theorem gather_tup {l : Addr} {vs : List Value} {Q : List Value → Shared → Prop} (hl : IsTup s.heap l vs.toArray) (hsz : vs.length ≤ sizeLine)
    (h : Q vs { s with heap := (s.heap.push (seqObj "list" #[] 0)).update s.heap.objs.size (Obj.mapSeq (· ++ vs.toArray)) }) : wpAny (model prog w) A (collect (.ref l)) Q E s := by
  obtain ⟨o, hob, hcl, n, hda⟩ := id hl
  unfold collect
  refine wpAny_bind (wpAny_runValue (codeAny_builtin entry_proto_collect' ?_))
  show wpAny _ _ (do again (.builtin "list.__iadd__" ⟨[← newList [], .ref l], []⟩)) _ _ s
  refine wpAny_bind (wpAny_newList (wpAny_pure ⟨Code.quiet_builtin _ (by decide +kernel), codeAny_builtin entry_list_iadd' ?_⟩))
  show wpAny _ _ (Builtin.List.listExtendWith (.ref s.heap.objs.size) (.ref l) (.ref s.heap.objs.size)) _ _ { s with heap := s.heap.push (seqObj "list" #[] 0) }
  unfold Builtin.List.listExtendWith
  have hob' : (s.heap.push (seqObj "list" #[] 0)).get? l = some o := Heap.get?_push_of_some _ hob
  refine wpAny_bind (wpAny_typeOf (T := "tuple") ⟨o, hob', hcl⟩ ?_)
  have ht : (Value.type "tuple" == Value.type "tuple") = true := by rfl
  rw [if_pos (by rw [ht]; simp)]
  refine wpAny_bind (listItems_at hob' hda ?_)
  refine wpAny_bind (listItems_at (xs := #[]) (n := 0) (Heap.get?_push_size _ rfl) rfl ?_)
  rw [if_neg (by simp)]
  refine wpAny_bind (listUpdate_at (xs := #[]) (n := 0) (Heap.get?_push_size _ rfl) rfl ?_ (Nat.zero_le _) (by show (#[] ++ vs.toArray).size ≤ sizeLine + 1; simp only [Array.size_append, List.size_toArray, List.length_nil]; omega))
  refine wpAny_pure ?_
  show wpAny (model prog w) A (do
      let ob ← load s.heap.objs.size
      match ob.data with
      | .seq xs _ => pure xs.toList
      | _ => unsupported "internal:collect") Q E { s with heap := (s.heap.push (seqObj "list" #[] 0)).update s.heap.objs.size (Obj.mapSeq (· ++ vs.toArray)) }
  refine wpAny_bind (wpAny_load (get?_update_seq (Heap.get?_push_size _ rfl) _) ?_)
  show wpAny _ _ (pure ((#[] : Array Value) ++ vs.toArray).toList) Q E _
  rw [show ((#[] : Array Value) ++ vs.toArray).toList = vs by simp]
  exact wpAny_pure h
theorem sorted_ordTup {l : Addr} {vs : List Value} {ltv : Value → Value → Bool} {Q : Value → Shared → Prop} (O : Swo ltv) (hl : IsTup s.heap l vs.toArray) (hz : vs.length ≤ sizeLine)
    (hS : 2 ≤ vs.length → ∀ (h₁ : Heap) (a : Addr), h₁.get? a = some (seqObj "list" vs.toArray 0) → (∀ b o, s.heap.get? b = some o → b ≠ a ∧ h₁.get? b = some o) → SortableO prog w A.in1.in1 { s with heap := h₁ } a vs ltv)
    (h : ∀ out : List Value, Srtd ltv out → Stb ltv out vs → Q (.ref (s.heap.objs.size + 1)) { s with heap := sortedAll s.heap vs out.toArray }) :
    wpAny (model prog w) A (call (.builtin "sorted") [.ref l]) Q E s := by
  refine Calls.call_function_entry kind_sorted plain_sorted entry_sorted (args_sorted1 _) ?_
  unfold Builtin.«sorted»
  refine wpAny_bind (m := checkCount "sorted" 1 1 _) (wpAny_pure ?_)
  refine wpAny_bind (gather_tup hl hz ?_)
  refine wpAny_bind (wpAny_newList ?_ hz)
  generalize hP : (s.heap.push (seqObj "list" #[] 0)).update s.heap.objs.size (Obj.mapSeq (· ++ vs.toArray)) = P at *
  have hsz : P.objs.size = s.heap.objs.size + 1 := by rw [← hP, Heap.size_update, size_push']
  have hnew : (P.push (seqObj "list" vs.toArray 0)).get? (s.heap.objs.size + 1) = some (seqObj "list" vs.toArray 0) := by
    rw [← hsz]; exact Heap.get?_push_size _ rfl
  have old : ∀ b o, s.heap.get? b = some o → b ≠ s.heap.objs.size + 1 ∧ (P.push (seqObj "list" vs.toArray 0)).get? b = some o := fun b o q => by
    have hlt : b < s.heap.objs.size := Heap.lt_size q
    refine ⟨Nat.ne_of_lt (Nat.lt_succ_of_lt hlt), Heap.get?_push_of_some _ ?_⟩
    rw [← hP, Heap.get?_update_ne _ _ _ _ (Nat.ne_of_lt hlt)]
    exact Heap.get?_push_of_some _ q
  show wpAny _ _ _ _ _ { s with heap := P.push (seqObj "list" vs.toArray 0) }
  rw [hsz]
  refine wpAny_bind (wpAny_holding (wpAny_call_entry slot_list_sort ⟨_, hnew, rfl⟩ entry_list_sort (list_sort_ord O hnew hz (fun h2 => hS h2 _ _ hnew old) fun out hs hb => ⟨_, rfl, ?_⟩) (args_list_sort _)))
  subst hP
  exact wpAny_pure ⟨_, rfl, h out hs hb⟩
end
end SrtO
namespace Mp
open PySem PySem.Spec L2
open PyProof.Rows hiding St
section
variable {X : Cx}
def rSortedT (K : PySem.W.Frag) : List V → Hp → VK → Prop := fun vs H Q => ∃ (a : Addr) (ns : List Int), vs = [V.ref a] ∧ SqT K H a (ns.map V.int) ∧
  ∀ (ns' : List Int) (p : Addr), ns'.Perm ns → ns'.Pairwise (· ≤ ·) → H p = none → Q (.ref p) (upd H p (.lst (ns'.map V.int)))
theorem cr_sortedT : CallR X (.builtin "sorted") (rSortedT X.K) := by
  intro pins s σ H vs us Q I r h
  obtain ⟨a, ns, rfl, hs, q⟩ := h
  obtain ⟨its, rv, hl, hz⟩ := I.tuple hs
  rw [Vals.ref1 r]
  have hi := rv.ints
  refine SrtO.sorted_ordTup SrtO.swo_int hl (by rw [← rv.length]; exact hz) (fun h2 h₁ a' _ _ => SrtO.ints_sortable hi h2) fun out h1 h2 => ?_
  obtain ⟨k1, k2, k3⟩ := SrtO.ints_out hi h1 h2
  obtain ⟨ep, hat⟩ := PyProof.Rows.sortedAll_at s.heap its out.toArray
  refine ⟨.ref _, upd H (s.heap.objs.size + 1) (.lst ((out.map SrtO.iv).map V.int)), I.laid (t' := s.toks) (fun _ _ => PyProof.Rows.sortedAll_old) (Nat.le_succ _) ⟨?_, out, ep, vals_of_ints k1, hat⟩, rfl, q _ _ k2 k3 (I.hok.fresh (Nat.le_succ _))⟩
  rw [List.length_map, k2.length_eq]
  rwa [List.length_map] at hz
def rMaxT (K : PySem.W.Frag) : List V → Hp → VK → Prop := fun vs H Q => ∃ (a : Addr) (ns : List Int), vs = [V.ref a] ∧ SqT K H a (ns.map V.int) ∧ 0 < ns.length ∧ ∀ m, m ∈ ns → (∀ y, y ∈ ns → y ≤ m) → Q (.int m) H
theorem cr_maxT (hc : X.calm = true) : CallR X (.builtin "max") (rMaxT X.K) := by
  intro pins s σ H vs us Q I r h
  obtain ⟨a, ns, rfl, hs, hne, q⟩ := h
  obtain ⟨its, rv, ht, hz⟩ := I.tuple hs
  rw [Vals.ref1 r]
  have hlen : its.length = ns.length := by have := rv.length; rw [List.length_map] at this; exact this.symm
  have hT : s.heap.IsTuple a its.toArray := ht
  refine call_max_walk (wpAny_pyIter_tuple hT ?_)
  have hlt : a < s.heap.objs.size := by
    obtain ⟨o, ho, _⟩ := ht
    exact Heap.lt_size ho
  have hval : ∀ i v, its.toArray[i]? = some v → ∃ t, v = Value.int (ns.getD i 0) t := fun i v hv => by
    have hi : i < ns.length := by
      have := (Array.getElem?_eq_some_iff.mp hv).1
      simpa [hlen] using this
    obtain ⟨u, hu, t, hu2⟩ := rv.get (i := i) (x := .int ns[i]) (by simp [hi])
    have e : its[i]? = some v := by simpa using hv
    rw [hu] at e
    cases e
    exact ⟨t, by rw [hu2]; simp [List.getD_eq_getElem?_getD, hi]⟩
  refine ⟨_, _, _, _, _, _, _, rfl, Walks.tuple (A := X.A.in1) (I.ok.hd hc) _ a (Nat.ne_of_lt hlt) its.toArray, ⟨⟨_, Heap.get?_push_size _ rfl, rfl, rfl⟩, ?_⟩, ?_, by simpa [hlen] using hne, CmpOf.ints_gt (fun i => ns.getD i 0) hval, fun v h' tk hP hk => ?_⟩
  · obtain ⟨o, ho, hc2⟩ := ht
    exact ⟨o, Heap.get?_push_of_some _ ho, hc2⟩
  · intro b hb
    show b < (s.heap.push _).objs.size
    rw [Heap.size_push]
    rcases List.mem_cons.mp hb with e | hb
    · subst e; exact Nat.lt_succ_self _
    · rcases List.mem_cons.mp hb with e | hb
      · subst e; exact Nat.lt_succ_of_lt hlt
      · cases hb
  · obtain ⟨t, rfl⟩ := hval _ v hP
    obtain ⟨m1, m2⟩ := argBest_gt (fun i => ns.getD i 0) (its.toArray.size - 1)
    have hs2 : its.toArray.size = ns.length := by simp [hlen]
    refine ⟨.int _, H, I.kept fun b o eo => hk b o (fun hm => by
      rcases List.mem_cons.mp hm with e1 | hm
      · exact absurd (e1 ▸ Heap.lt_size eo) (Nat.lt_irrefl _)
      · cases hm) (Heap.get?_push_of_some _ eo), ⟨_, rfl⟩, q _ ?_ fun y hy => ?_⟩
    · have hb : argBest (fun i j => decide (ns.getD i 0 > ns.getD j 0)) (its.toArray.size - 1) < ns.length := by omega
      rw [List.getD_eq_getElem?_getD, List.getElem?_eq_getElem hb]
      exact List.getElem_mem hb
    · obtain ⟨i, hi, rfl⟩ := List.mem_iff_getElem.mp hy
      have := m2 i (by omega)
      rw [List.getD_eq_getElem?_getD, List.getElem?_eq_getElem hi] at this
      exact this
end
/-! by data -/
def sortD : List D → Option D
  | [.lst xs] => match ints? xs with | some ns => some (.lst ((isort ns).map D.int)) | none => none
  | [.tup xs] => match ints? xs with | some ns => some (.lst ((isort ns).map D.int)) | none => none
  | _ => none
def maxD : List D → Option D
  | [.int i, .int k] => some (.int (if k > i then k else i))
  | [.lst xs] => match ints? xs with | some (a :: r) => some (.int (maxL a r)) | _ => none
  | [.tup xs] => match ints? xs with | some (a :: r) => some (.int (maxL a r)) | _ => none
  | _ => none
section
variable {J : Type} {S : Js J} {B : Bs} {M : Nat → Bool} {W : WX} {X : Cx} {e : Expr} {es : List Expr} {pos p : Pos} {fr : Av J} {ci : Bool}
theorem s_sortD : CallS S (fun vs H Q => rSortedI S.K vs H Q ∨ rSortedT S.K vs H Q) sortD ci .fresh := by
  intro B g H j ds d vs Q ok h e q
  unfold sortD at e
  split at e
  · rename_i xs
    exact .inl (s_sorted (ci := ci) B g H j _ d vs Q ok h e q)
  · rename_i xs
    split at e
    · rename_i ns hn
      cases e
      have hx := ints?_some hn
      subst hx
      cases h with
      | cons h1 h2 =>
        cases h2
        obtain ⟨a, ws, rfl, ha, ra⟩ := tup_of h1
        have hv := RpL.of_ints ra
        subst hv
        refine .inr ⟨a, ns, rfl, (ha.same (ok.sub ci)).t, fun ns' p hp hs np => ?_⟩
        have e2 := isort_unique hp hs
        subst e2
        obtain ⟨n1, n2, n3, n4⟩ := ok.hn np
        exact q (g.see p (.lst ((isort ns).map V.int))) _ _ (Le.see n2) (ok.see _ np) ⟨p, rfl, n2, n1, .inl ⟨_, _, rfl, upd_same, RpL.ints _⟩⟩
    · cases e
  · cases e
theorem s_maxD : CallS S (fun vs H Q => rMaxD S.K vs H Q ∨ rMaxT S.K vs H Q) maxD ci .clean := by
  intro B g H j ds d vs Q ok h e q
  unfold maxD at e
  split at e
  · exact .inl (s_max (ci := ci) B g H j _ d vs Q ok h e q)
  · exact .inl (s_max (ci := ci) B g H j _ d vs Q ok h e q)
  · rename_i xs
    split at e
    · rename_i a0 r0 hn
      cases e
      have hx := ints?_some hn
      subst hx
      cases h with
      | cons h1 h2 =>
        cases h2
        obtain ⟨a, ws, rfl, ha, ra⟩ := tup_of h1
        have hv := RpL.of_ints ra
        subst hv
        refine .inr ⟨a, a0 :: r0, rfl, (ha.same (ok.sub ci)).t, by simp, fun m hm hmax => ?_⟩
        obtain ⟨m1, m2⟩ := maxL_spec r0 a0
        have e2 : m = maxL a0 r0 := Int.le_antisymm (m2 m hm) (hmax _ m1)
        subst e2
        exact q g _ H (Le.refl g) ok (.int _)
    · cases e
  · cases e
theorem kSortD (hK : X.K = S.K) (hm : X.mg "sorted" = none) (ha : PA X (e :: es) (rdA S B M W ci fr)) (hg : Gl X "sorted" := by rfl) (he : starEach (e :: es) X.env = (false, eval e X.env) :: starEach es X.env := by rfl) (hpl : (backTo pos (starEach es X.env)).any (·.1) = false := by rfl) :
    PE X (.Call (.Name "sorted" p) (e :: es) [] pos) (rdE S B M W .fresh (eB sortD fr)) := kB (cr_sortedI.or cr_sortedT) (by rw [hK]; exact s_sortD) hm bt_sorted ha hg (by decide) (by decide) he hpl
theorem kMaxD (hK : X.K = S.K) (hm : X.mg "max" = none) (ha : PA X (e :: es) (rdA S B M W ci fr)) (hg : Gl X "max" := by rfl) (hc : X.calm = true := by rfl) (he : starEach (e :: es) X.env = (false, eval e X.env) :: starEach es X.env := by rfl) (hpl : (backTo pos (starEach es X.env)).any (·.1) = false := by rfl) :
    PE X (.Call (.Name "max" p) (e :: es) [] pos) (rdE S B M W .clean (eB maxD fr)) := kB ((cr_maxD hc).or (cr_maxT hc)) (by rw [hK]; exact s_maxD) hm bt_max ha hg (by decide) (by decide) he hpl
end
@[simp] theorem maxD_i {a b : Int} : maxD [.int a, .int b] = some (.int (if b > a then b else a)) := rfl
theorem sort_t {ns : List Int} : sortD [.tup (ns.map D.int)] = some (.lst ((isort ns).map D.int)) := by
  show (match ints? (ns.map D.int) with | some ns => some (D.lst ((isort ns).map D.int)) | none => none) = _
  rw [ints?_map]
theorem sort_l {ns : List Int} : sortD [.lst (ns.map D.int)] = some (.lst ((isort ns).map D.int)) := by
  show (match ints? (ns.map D.int) with | some ns => some (D.lst ((isort ns).map D.int)) | none => none) = _
  rw [ints?_map]
theorem max_t {a : Int} {r : List Int} : maxD [.tup ((a :: r).map D.int)] = some (.int (maxL a r)) := by
  show (match ints? ((a :: r).map D.int) with | some (a :: r) => some (D.int (maxL a r)) | _ => none) = _
  rw [ints?_map]
end Mp

/-! MpJ: the random source of the laws k01 to k10, k71 to k78. -/
namespace Mp
open PySem PySem.Spec L2
open PyProof.Rows hiding St
/-! ### a def by a function on data (for the sources alone) -/
abbrev FvO (J : Type) := List D → J → Option (D × J)
def spFO {J : Type} (S : Js J) (n : Nat) (φ : FvO J) : Sp := fun vs H Q _ => ∃ F A j ds d j', Same F H ∧ (∀ b o, F b = some o → ¬ A b) ∧ S.rep j F A H ∧ (∃ o u, H sysModules = some (.frz o u)) ∧ RpL S F ds vs ∧ ds.length = n ∧ φ ds j = some (d, j') ∧
  ∀ F' A' H' v, FPost S F A H F' A' H' j' → Rp S F' d v → Q v H'
structure LJ where
  cells : List Int
  n : Nat
  great : List Int
  hc : cells ≠ []
  hl : cells.length ≤ 100
  hg : great.length ≤ 100
def goR : List Int → Int → Option (Int × List Int)
  | [], _ => none
  | r :: rs, k => if 0 < r then some (r % k, (r / k) :: rs) else goR rs k
def hash1 (c : Int) (n : Nat) : Int := (c % 4294967291 + 2246822519 * ((n : Int) + 1)) % 4294967291
def hash2 (s : Int) : Int := s * s % 4294967279 * 2654435761 % 4294967291
def hash3 (s : Int) (n : Nat) : Int := (s + 374761393 * (n : Int)) ^ (2 : Nat) % 4294967231
def hashV (c : Int) (n : Nat) : Int := hash3 (hash2 (hash1 c n)) n
def cellAt (cells : List Int) (n : Nat) : Int := cells.getD (n % cells.length) 0
theorem goR_len : ∀ {gs : List Int} {k v : Int} {gs' : List Int}, goR gs k = some (v, gs') → gs'.length ≤ gs.length
  | [], _, _, _, h => by cases h
  | r :: rs, k, v, gs', h => by
    unfold goR at h
    split at h
    · cases h; simp
    · exact Nat.le_trans (goR_len h) (by simp)
def LJ.lift (j : LJ) (k : Int) : Int × LJ := match h : goR j.great.reverse k with
  | some (v, gs) => (v, ⟨j.cells, j.n + 1, gs.reverse, j.hc, j.hl, by have := goR_len h; have := j.hg; simp at *; omega⟩)
  | none => (hashV (cellAt j.cells j.n) j.n / 8 % k, ⟨j.cells, j.n + 1, [], j.hc, j.hl, by simp⟩)
theorem goR_rng : ∀ {gs : List Int} {k v : Int} {gs' : List Int}, 0 < k → goR gs k = some (v, gs') → 0 ≤ v ∧ v < k
  | [], _, _, _, _, h => by cases h
  | r :: rs, k, v, gs', hk, h => by
    unfold goR at h
    split at h
    · cases h; exact ⟨Int.emod_nonneg _ (by omega), Int.emod_lt_of_pos _ hk⟩
    · exact goR_rng hk h
theorem LJ.lift_rng (j : LJ) {k : Int} (hk : 0 < k) : 0 ≤ (j.lift k).1 ∧ (j.lift k).1 < k := by
  unfold LJ.lift
  split
  · rename_i h; exact goR_rng hk h
  · exact ⟨Int.emod_nonneg _ (by omega), Int.emod_lt_of_pos _ hk⟩
theorem LJ.lift_n (j : LJ) (k : Int) : (j.lift k).2.n = j.n + 1 := by
  unfold LJ.lift
  split <;> rfl
def NMAX : Nat := 1000000000
def liftF : FvO LJ := fun ds j => match ds with
  | [.jar, .int k] => if decide (0 < k) && sm k && decide (j.n < NMAX) then some (.int (j.lift k).1, (j.lift k).2) else none
  | _ => none
/-- how it lies: the list at R, its cells at c, its great numbers at e -/
def repL (R : Addr) (j : LJ) (A : Addr → Prop) (H : Hp) : Prop := ∃ c e, c ≠ R ∧ e ≠ R ∧ c ≠ e ∧ H R = some (.lst [.ref c, .int (j.n : Nat), .ref e]) ∧ H c = some (.lst (j.cells.map V.int)) ∧ H e = some (.lst (j.great.map V.int)) ∧ ∀ b, A b ↔ b = R ∨ b = c ∨ b = e
def jsL (K : PySem.W.Frag) (R : Addr) : Js LJ where
  K := K
  R := .ref R
  cl := fun _ => 0
  xc := fun _ => 0
  xf := fun _ => ""
  rep := fun j _ A H => repL R j A H
  frame := fun {j F F' A H H'} h _ q => by
    obtain ⟨c, e, h1, h2, h3, h4, h5, h6, h7⟩ := h
    exact ⟨c, e, h1, h2, h3, by rw [q R ((h7 R).mpr (.inl rfl))]; exact h4, by rw [q c ((h7 c).mpr (.inr (.inl rfl)))]; exact h5, by rw [q e ((h7 e).mpr (.inr (.inr rfl)))]; exact h6, h7⟩
  dom := fun {j F A H b} h a => by
    obtain ⟨c, e, h1, h2, h3, h4, h5, h6, h7⟩ := h
    rcases (h7 b).mp a with rfl | rfl | rfl
    · rw [h4]; simp
    · rw [h5]; simp
    · rw [h6]; simp
/-- what a def that draws leaves of the heap -/
structure Out (A : Addr → Prop) (H H' : Hp) : Prop where
  keep : ∀ b o, H b = some o → ¬ A b → H' b = some o
  dm : ∀ b, H' b = none → H b = none
theorem Out.refl (A : Addr → Prop) (H : Hp) : Out A H H := ⟨fun _ _ e _ => e, fun _ e => e⟩
theorem Out.at {A : Addr → Prop} {H H' : Hp} (h : Out A H H') {a : Addr} (ha : A a) (o : HO) : Out A H (upd H' a o) := ⟨fun b u e n => by rw [upd_ne (show b ≠ a from fun z => n (by rw [z]; exact ha))]; exact h.keep b u e n, fun b e => by
  by_cases hb : b = a
  · subst hb; rw [upd_same] at e; cases e
  · rw [upd_ne hb] at e; exact h.dm b e⟩
theorem Out.new {A : Addr → Prop} {H H' : Hp} (h : Out A H H') {a : Addr} (ha : H' a = none) (o : HO) : Out A H (upd H' a o) := ⟨fun b u e n => by rw [upd_ne (ne_of_none (h.keep b u e n) ha)]; exact h.keep b u e n, fun b e => by
  by_cases hb : b = a
  · subst hb; exact h.dm b ha
  · rw [upd_ne hb] at e; exact h.dm b e⟩
theorem Out.post {J : Type} {S : Js J} {F H H' : Hp} {A : Addr → Prop} {j' : J} (h : Out A H H') (fh : Same F H) (fa : ∀ b o, F b = some o → ¬ A b) (jr : S.rep j' F A H') (sm : ∃ o u, H sysModules = some (.frz o u)) (na : ¬ A sysModules) : FPost S F A H F A H' j' :=
  ⟨Same.refl _, fun b o e => h.keep b o (fh b o e) (fa b o e), fa, jr, h.keep, fun b o e => .inl e, fun b e => .inl e, h.dm, let ⟨o, u, e⟩ := sm; ⟨o, u, h.keep _ _ e na⟩⟩

/-! ### _law_lift -/
def rMulW : R2 := rI CMulW fun i j => .int (i * j)
def rAddI : R2 := rI0 fun i j => .int (i + j)
def rMod : R2 := rI (fun _ j => 0 < j) fun i j => .int (i % j)
def rDivW : R2 := rI CDivW fun i j => .int (i / j)
def rPowI : R2 := rI CPow fun i j => .int (i ^ j.toNat)
def rLen1 (K : PySem.W.Frag) : List V → Hp → VK → Prop := fun xs H Q => ∃ x n, xs = [x] ∧ LenV K x H n ∧ Q (.int n) H
def tLiftW (K : PySem.W.Frag) : TS := tWhile (tTest (tOp (rNeD K) (tVar 4) (tLst tNil)))
  (tSeq (tAsg (tBM0 K "list" rPop (tVar 4)) (gName 5)) (tIfS (tTest (tOp (rI0 fun i j => .bl (decide (j < i))) (tVar 5) (tC (.int 0))))
    (tSeq (tDrop (tBM K "list" rAppend (tVar 4) (tCons (tOp rDivW (tVar 5) (tVar 1)) tNil))) (tRet (tOp rMod (tVar 5) (tVar 1)))) tNext))
def tLift1 (K : PySem.W.Frag) : TE := tOp rMod (tOp rAddI (tOp rMod (tOp (rIxL K) (tVar 2) (tOp rMod (tVar 3) (tCB (rLen1 K) (tCons (tVar 2) tNil)))) (tC (.int 4294967291))) (tOp rMulW (tC (.int 2246822519)) (tOp rAddI (tVar 3) (tC (.int 1))))) (tC (.int 4294967291))
def tLift2 : TE := tOp rMod (tOp rMulW (tOp rMod (tOp rMulW (tVar 6) (tVar 6)) (tC (.int 4294967279))) (tC (.int 2654435761))) (tC (.int 4294967291))
def tLift3 : TE := tOp rMod (tOp rPowI (tOp rAddI (tVar 6) (tOp rMulW (tC (.int 374761393)) (tVar 3))) (tC (.int 2))) (tC (.int 4294967231))
def tLift (K : PySem.W.Frag) : TS :=
  tSeq (tAsg (tVar 0) (gUnl K 3 (gCons (gName 2) (gCons (gName 3) (gCons (gName 4) gNil)))))
  (tSeq (tAsg (tOp rAddI (tVar 3) (tC (.int 1))) (gSub (tVar 0) (tC (.int 1)) rSetL))
  (tSeq (tLiftW K)
  (tSeq (tAsg (tLift1 K) (gName 6)) (tSeq (tAsg tLift2 (gName 6)) (tSeq (tAsg tLift3 (gName 6))
  (tRet (tOp rMod (tOp rDivW (tVar 6) (tC (.int 8))) (tVar 1))))))))
theorem pyInts (ns : List Int) : pyL (ns.map D.int) = some (ns.map PyData.int) := by
  induction ns with
  | nil => rfl
  | cons n ns ih => simp only [List.map_cons, pyL, py, ih]
theorem dpInts {K : PySem.W.Frag} {H : Hp} : ∀ (ns : List Int), DpAll K H (ns.map V.int) (ns.map PyData.int)
  | [] => .nil
  | n :: ns => .cons (.int n) (dpInts ns)
theorem shaped_ints (gs : List Int) : SeqAt.shaped (.list (gs.map PyData.int)) = true := by
  have h1 : PyData.canLayAll0 (gs.map PyData.int) = true := by
    induction gs with
    | nil => rfl
    | cons g gs ih => simp only [List.map_cons, PyData.canLayAll0, PyData.canLay0, ih]; rfl
  have h2 : PyData.depthAll (gs.map PyData.int) = 0 := by
    induction gs with
    | nil => rfl
    | cons g gs ih => simp only [List.map_cons, PyData.depthAll, PyData.depth]; rw [ih (by simpa [PyData.canLayAll0, PyData.canLay0] using h1)]; rfl
  unfold SeqAt.shaped
  simp only [PyData.canLay0, PyData.depth, h1, h2]
  decide
theorem pos0 {i j : Int} (h : 0 < j) : (fun (_ j : Int) => 0 < j) i j := h
theorem eqv_cons (g : Int) (gs : List Int) : PyData.eqv (.list ((g :: gs).map PyData.int)) (.list []) = false := by
  simp only [List.map_cons, PyData.eqv, PyData.eqvAll]
theorem hash_lt (c : Int) (n : Nat) : (0 ≤ hash1 c n ∧ hash1 c n < 4294967291) ∧ ∀ s, (0 ≤ hash2 s ∧ hash2 s < 4294967291) ∧ 0 ≤ hash3 s n := by
  refine ⟨⟨Int.emod_nonneg _ (by decide), Int.emod_lt_of_pos _ (by decide)⟩, fun s => ⟨⟨Int.emod_nonneg _ (by decide), Int.emod_lt_of_pos _ (by decide)⟩, Int.emod_nonneg _ (by decide)⟩⟩
theorem lift_pure {K : PySem.W.Frag} {R : Addr} {N : List Str} (hN : N.length = 7) {vs : List V} {H : Hp} {Q : VK} {E : XK} (h : spFO (jsL K R) 2 liftF vs H Q E) : tLift K { nx := fun _ H' => Q .non H', rt := Q } (L2.start N vs) H := by
  obtain ⟨F, A, j, ds, d, j', fh, fa, jr, sM, rp, hl, hf, q⟩ := h
  unfold liftF at hf
  split at hf
  · rename_i k
    split at hf
    · rename_i hc
      simp only [Bool.and_eq_true, decide_eq_true_eq] at hc
      obtain ⟨⟨c1, c2⟩, c3⟩ := hc
      cases hf
      obtain ⟨c, e, h1, h2, h3, h4, h5, h6, h7⟩ : repL R j A H := jr
      cases rp with
      | cons r1 rp =>
        cases rp with
        | cons r2 rp =>
          cases rp
          cases r1
          cases r2
          have st : L2.start N [.ref R, .int k] = [some (.ref R), some (.int k), none, none, none, none, none] := by
            unfold L2.start; rw [hN]; rfl
          show tLift K _ (L2.start N [.ref R, .int k]) H
          rw [st]
          have aR : A R := (h7 R).mpr (.inl rfl)
          have ac : A c := (h7 c).mpr (.inr (.inl rfl))
          have ae : A e := (h7 e).mpr (.inr (.inr rfl))
          have na : ¬ A sysModules := fun z => by
            obtain ⟨o, u, eo⟩ := sM
            rcases (h7 _).mp z with z | z | z
            · rw [z, h4] at eo; cases eo
            · rw [z, h5] at eo; cases eo
            · rw [z, h6] at eo; cases eo
          have kdiv : CDivW 0 k := ⟨c1, Nat.lt_of_lt_of_le (sm_log c2) (by decide)⟩
          have hnm : j.n < 1000000000 := c3
          refine ⟨_, rfl, R, _, rfl, .of h4, rfl, _, _, rfl, _, _, rfl, _, _, rfl, rfl, ?_⟩
          refine ⟨_, rfl, _, _, rfl, rfl, _, rfl, R, _, 1, 1, rfl, rfl, h4, rfl, ?_⟩
          have o1 := (Out.refl A H).at aR (.lst ([V.ref c, .int (j.n : Nat), .ref e].set 1 (.int ((j.n : Nat) + 1))))
          refine ⟨fun m σ H' => ∃ (gs : List Int) (r5 : Option V), σ = [some (.ref R), some (.int k), some (.ref c), some (.int (j.n : Nat)), some (.ref e), r5, none] ∧ gs.length = m ∧ gs.length ≤ 100 ∧ H' R = some (.lst [.ref c, .int ((j.n : Nat) + 1), .ref e]) ∧ H' c = some (.lst (j.cells.map V.int)) ∧ H' e = some (.lst (gs.map V.int)) ∧ Out A H H' ∧ goR gs.reverse k = goR j.great.reverse k,
            ⟨j.great.length, j.great, none, rfl, rfl, j.hg, upd_same, by rw [upd_ne h1]; exact h5, by rw [upd_ne h2]; exact h6, o1, rfl⟩, ?_⟩
          rintro m σ H' ⟨gs, r5, rfl, rfl, hg, hR, hcc, he, out, hgo⟩
          refine ⟨_, rfl, by decide, fun p hp => ?_⟩
          have ne1 : e ≠ p := ne_of_none he hp
          have ne2 : R ≠ p := ne_of_none hR hp
          have ne3 : c ≠ p := ne_of_none hcc hp
          have he' : upd H' p (.lst []) e = some (.lst (gs.map V.int)) := by rw [upd_ne ne1]; exact he
          have hR' : upd H' p (.lst []) R = _ := (upd_ne ne2).trans hR
          have hc' : upd H' p (.lst []) c = _ := (upd_ne ne3).trans hcc
          refine ⟨.list (gs.map PyData.int), .list [], .lst (.of he') (dpInts gs), .lst (.of upd_same) .nil, ?_, by decide, _, rfl, ?_⟩
          · exact shaped_ints gs
          · rcases List.eq_nil_or_concat gs with rfl | ⟨gs', z, rfl⟩
            · refine iteF ?_
              -- the cells
              have hcl : (j.n : Int) % (j.cells.length : Int) = ((j.n % j.cells.length : Nat) : Int) := by simp
              have hpos : 0 < j.cells.length := List.length_pos_iff.mpr j.hc
              have hlt : j.n % j.cells.length < j.cells.length := Nat.mod_lt _ hpos
              have hat : atI (j.cells.map V.int) ((j.n : Int) % (j.cells.length : Int)) = some (.int (cellAt j.cells j.n)) := by
                have hx : ixN (j.cells.map V.int).length ((j.n : Int) % (j.cells.length : Int)) = some (j.n % j.cells.length) := by
                  unfold ixN
                  rw [hcl, List.length_map, if_pos (Int.natCast_nonneg _), if_pos (by omega), Int.toNat_natCast]
                unfold atI
                rw [hx, Option.bind_some, List.getElem?_map]
                unfold cellAt
                rw [List.getD_eq_getElem?_getD, List.getElem?_eq_getElem hlt]
                rfl
              obtain ⟨⟨b1, b2⟩, hb⟩ := hash_lt (cellAt j.cells j.n) j.n
              obtain ⟨⟨b3, b4⟩, b5⟩ := hb (hash1 (cellAt j.cells j.n) j.n)
              have b6 := (hb (hash2 (hash1 (cellAt j.cells j.n) j.n))).2
              have bm1 : ∀ z : Int, 0 ≤ z % 4294967279 ∧ z % 4294967279 < 4294967279 := fun z => ⟨Int.emod_nonneg _ (by decide), Int.emod_lt_of_pos _ (by decide)⟩
              refine ⟨_, rfl, _, rfl, _, rfl, _, _, rfl, .inl ⟨_, .of hc', rfl⟩, _, _, rfl, rfl, by rw [List.length_map]; omega, c, _, _, .int (cellAt j.cells j.n), rfl, rfl, .of hc', by rw [List.length_map]; exact hat, _, _, rfl, rfl, (show (0:Int) < _ by decide), _, rfl, _, _, rfl, rfl, _, _, rfl, rfl, wide_mul (a := 64) (b := 64) (by omega) (by omega) (by decide) (by decide) (by decide), _, _, rfl, rfl, _, _, rfl, rfl, (show (0:Int) < _ by decide), ?_⟩
              refine ⟨_, rfl, _, rfl, _, _, rfl, rfl, wide_mul (a := 64) (b := 64) (by unfold hash1 at b1 b2; omega) (by unfold hash1 at b1 b2; omega) (by decide) (by decide) (by decide), _, _, rfl, rfl, (show (0:Int) < _ by decide), _, _, rfl, rfl, wide_mul (a := 64) (b := 64) (by have := bm1 (hash1 (cellAt j.cells j.n) j.n * hash1 (cellAt j.cells j.n) j.n); unfold hash1 at this; omega) (by omega) (by decide) (by decide) (by decide), _, _, rfl, rfl, (show (0:Int) < _ by decide), ?_⟩
              refine ⟨_, rfl, _, rfl, _, _, rfl, rfl, wide_mul (a := 64) (b := 64) (by omega) (by omega) (by decide) (by decide) (by decide), _, _, rfl, rfl, _, _, rfl, rfl, ⟨by decide, by decide, ?_⟩, _, _, rfl, rfl, (show (0:Int) < _ by decide), ?_⟩
              · unfold hash2 hash1 at b3 b4; omega
              · refine ⟨_, rfl, _, _, rfl, rfl, ⟨by decide, by decide⟩, _, rfl, _, _, rfl, rfl, c1, ?_⟩
                have hv : j.lift k = (hashV (cellAt j.cells j.n) j.n / 8 % k, ⟨j.cells, j.n + 1, [], j.hc, j.hl, by simp⟩) := by
                  unfold LJ.lift
                  split
                  · rename_i h; rw [← hgo] at h; cases h
                  · rfl
                rw [hv] at q
                refine q F A _ _ ((out.new hp _).post fh fa ⟨c, e, h1, h2, h3, hR', hc', he', h7⟩ sM na) (.int _)
            · have hev : (!PyData.eqv (.list ((gs'.concat z).map PyData.int)) (.list [])) = true := by
                cases gs' with
                | nil => rw [show ([] : List Int).concat z = z :: [] from rfl, eqv_cons]; rfl
                | cons a b => rw [show (a :: b).concat z = a :: b.concat z from rfl, eqv_cons]; rfl
              rw [hev]
              refine iteT ?_
              have o2 := out.new hp (.lst [])
              rw [List.concat_eq_append] at he' hg hgo
              have hdl : ((gs' ++ [z]).map V.int).dropLast = gs'.map V.int := by rw [List.map_append]; simp
              have hlast : ((gs' ++ [z]).map V.int)[((gs' ++ [z]).map V.int).length - 1]? = some (.int z) := by rw [List.map_append]; simp
              refine ⟨fun σ H' => ∃ (gs : List Int) (r5 : Option V), σ = [some (.ref R), some (.int k), some (.ref c), some (.int (j.n : Nat)), some (.ref e), r5, none] ∧ gs.length < (gs'.concat z).length ∧ gs.length ≤ 100 ∧ H' R = some (.lst [.ref c, .int ((j.n : Nat) + 1), .ref e]) ∧ H' c = some (.lst (j.cells.map V.int)) ∧ H' e = some (.lst (gs.map V.int)) ∧ Out A H H' ∧ goR gs.reverse k = goR j.great.reverse k,
                fun σ' H' ⟨gs, r5, a1, a2, a3, a4⟩ => ⟨gs.length, a2, gs, r5, a1, rfl, a3, a4⟩, ?_⟩
              refine ⟨_, rfl, .inl ⟨rfl, _, .of he'⟩, e, _, .int z, rfl, rfl, he', hlast, ?_⟩
              rw [hdl]
              have o3 := o2.at ae (.lst (gs'.map V.int))
              have hR3 := (upd_ne (o := HO.lst (gs'.map V.int)) (Ne.symm h2)).trans hR'
              have hc3 := (upd_ne (o := HO.lst (gs'.map V.int)) h3).trans hc'
              rw [List.reverse_append] at hgo
              have hgo' : goR (z :: gs'.reverse) k = goR j.great.reverse k := hgo
              refine ⟨_, rfl, _, _, rfl, rfl, _, rfl, ?_⟩
              by_cases hz : 0 < z
              · rw [decide_eq_true hz]
                refine iteT ?_
                refine ⟨_, rfl, .inl ⟨rfl, _, .of upd_same⟩, _, rfl, _, rfl, z, k, rfl, rfl, kdiv, e, _, _, rfl, rfl, upd_same, by rw [List.length_map]; exact Nat.lt_of_le_of_lt (Nat.le_trans (by simp at hg; omega) (by decide : 100 ≤ 1000)) (by decide), ?_⟩
                refine ⟨_, rfl, _, rfl, z, k, rfl, rfl, c1, ?_⟩
                rw [show goR (z :: gs'.reverse) k = some (z % k, (z / k) :: gs'.reverse) from if_pos hz] at hgo'
                have hv : (j.lift k).1 = z % k ∧ (j.lift k).2.cells = j.cells ∧ (j.lift k).2.n = j.n + 1 ∧ (j.lift k).2.great = gs' ++ [z / k] := by
                  unfold LJ.lift
                  split
                  · rename_i v gs h
                    rw [← hgo'] at h
                    cases h
                    exact ⟨rfl, rfl, rfl, by simp⟩
                  · rename_i h; rw [← hgo'] at h; cases h
                obtain ⟨v1, v2, v3, v4⟩ := hv
                have o4 := o3.at ae (.lst (gs'.map V.int ++ [.int (z / k)]))
                refine q F A _ _ (o4.post fh fa ⟨c, e, h1, h2, h3, ?_, ?_, ?_, h7⟩ sM na) (by rw [v1]; exact .int _)
                · rw [upd_ne (Ne.symm h2), v3]; exact hR3
                · rw [upd_ne h3, v2]; exact hc3
                · rw [upd_same, v4, List.map_append]; rfl
              · rw [decide_eq_false hz]
                refine iteF ?_
                rw [show goR (z :: gs'.reverse) k = goR gs'.reverse k from if_neg hz] at hgo'
                exact ⟨gs', _, rfl, by simp, by simp at hg; omega, hR3, hc3, upd_same, o3, hgo'⟩
    · cases hf
  · cases hf

/-! ### the source by what is asked of it alone: how often it was drawn from -/
def jsN (K : PySem.W.Frag) (cl xc : Nat → Addr) (xf : Nat → Str) (R : Addr) : Js Nat where
  K := K
  R := .ref R
  cl := cl
  xc := xc
  xf := xf
  rep := fun n _ A H => ∃ j : LJ, j.n = n ∧ repL R j A H
  frame := fun {n F F' A H H'} ⟨j, e, h⟩ s q => ⟨j, e, (jsL K R).frame (F := F) (F' := F') h s q⟩
  dom := fun {n F A H b} ⟨j, e, h⟩ a => (jsL K R).dom (F := F) h a
instance {K : PySem.W.Frag} {cl xc : Nat → Addr} {xf : Nat → Str} {R : Addr} : PureJ (jsN K cl xc xf R) := ⟨fun h => h⟩
/-- an int below k, any -/
def drawF (ds : List D) (n : Nat) (P : D → Nat → Prop) (E : Ex → Nat → Prop) : Prop := ∃ k, ds = [.jar, .int k] ∧ 0 < k ∧ sm k = true ∧ n < NMAX ∧ ∀ v, 0 ≤ v → v < k → P (.int v) (n + 1)
instance : MoF drawF := ⟨fun ⟨k, e, h1, h2, h3, h⟩ q _ => ⟨k, e, h1, h2, h3, fun v a b => q _ _ (h v a b)⟩⟩
theorem draw_spec {K : PySem.W.Frag} {cl xc : Nat → Addr} {xf : Nat → Str} {R : Addr} {vs : List V} {H : Hp} {Q : VK} {E : XK} (h : spF (jsN K cl xc xf R) 2 drawF vs H Q E) : spFO (jsL K R) 2 liftF vs H Q E := by
  obtain ⟨F, A, n, ds, P, Ep, fh, fa, ⟨j, hj, jr⟩, sM, rp, hl, ⟨k, rfl, h1, h2, h3, hp⟩, q, _⟩ := h
  subst hj
  have rp' : RpL (jsL K R) F [.jar, .int k] vs := by
    cases rp with
    | cons r1 rp =>
      cases rp with
      | cons r2 rp =>
        cases rp
        cases r1
        cases r2
        exact .cons .jar (.cons (.int _) .nil)
  refine ⟨F, A, j, _, .int (j.lift k).1, (j.lift k).2, fh, fa, jr, sM, rp', rfl, ?_, fun F' A' H' v p r => ?_⟩
  · show (if _ then _ else _) = _
    rw [if_pos (by simp [h1, h2, h3])]
  · have hv : v = .int (j.lift k).1 := int_of r
    subst hv
    exact q _ _ F' A' H' _ (hp _ (j.lift_rng h1).1 (j.lift_rng h1).2) ⟨p.sub, p.fh, p.fa, ⟨_, j.lift_n k, p.jr⟩, p.keep, p.ff, p.af, p.dm, p.sm⟩ (.int _)
end Mp

/-! MpO: how the random source of k01 to k10, k71 to k78 is opened. -/
namespace Mp
open PySem PySem.Spec L2
open PyProof.Rows hiding St
/-- a list comprehension over ints -/
theorem lcI {K : PySem.W.Frag} {a : Addr} {xs : List Int} {H1 : Hp} {Dd : Addr} {i : Nat} {σ : St} {tt : TT} {te : TE} {Q : Hp → Prop} (f : Int → Int) (t : Int → Bool) (hS : SqL K H1 a (xs.map V.int)) (hD : H1 Dd = none) (hlen : xs.length ≤ 1000)
    (htt : ∀ x H (Q : Bool → Hp → Prop), Q (t x) H → tt ((wipe σ [i]).set i (some (.int x))) H Q) (hte : ∀ x H (Q : VK), Q (.int (f x)) H → te ((wipe σ [i]).set i (some (.int x))) H Q) (hd : Q (upd H1 Dd (.lst (((xs.filter t).map f).map V.int)))) :
    ∃ W : Nat → Nat → Hp → Prop, (∃ m, W 0 m (upd H1 Dd (.lst []))) ∧ ∀ k m H, W k m H →
      ((Itl K a).stop k H ∧ Q H) ∨ ((Itl K a).go k H ∧ ∃ Nx : Hp → Prop, (∀ H', Nx H' → ∃ m', m' < m ∧ W (k + 1) m' H') ∧ ∀ x H', (Itl K a).yld k H x H' → gName i x (wipe σ [i]) H' fun σ2 H2 => wipe σ2 [i] = wipe σ [i] ∧ tt σ2 H2 fun b H3 =>
        if b = true then te σ2 H3 fun y H4 => ∃ acc, H4 Dd = some (.lst acc) ∧ acc.length < sizeLine ∧ Nx (upd H4 Dd (.lst (acc ++ [y]))) else Nx H3) := by
  have uu : ∀ (o o' : HO), upd (upd H1 Dd o) Dd o' = upd H1 Dd o' := fun o o' => by
    funext b
    by_cases hb : b = Dd
    · subst hb; rw [upd_same, upd_same]
    · rw [upd_ne hb, upd_ne hb, upd_ne hb]
  refine lc_it (walk_list (K := K) (a := a) (xs := xs.map V.int)) (fun k H => H = upd H1 Dd (.lst ((((xs.take k).filter t).map f).map V.int))) rfl (fun k H _ e => ?_) (fun k x H H' hk e y => ?_) (fun H e => ?_)
  · rw [e]
    exact (same_new hD).seq hS
  · obtain ⟨rfl, hx⟩ := y
    subst e
    rw [List.getElem?_map, Option.map_eq_some_iff] at hx
    obtain ⟨z, hz, rfl⟩ := hx
    refine ⟨?_, htt z _ _ ?_⟩
    · show ((wipe σ []).set i none |>.set i (some (V.int z)) |>.set i none) = (wipe σ []).set i none
      rw [List.set_set, List.set_set]
    · have htk : xs.take (k + 1) = xs.take k ++ [z] := by
        rw [List.take_add_one, hz]; rfl
      cases ht : t z with
      | true =>
        refine iteT ?_
        refine hte z _ _ ⟨_, upd_same, ?_, ?_⟩
        · rw [List.length_map, List.length_map]
          refine Nat.lt_of_le_of_lt (Nat.le_trans (List.length_filter_le _ _) (Nat.le_trans (by rw [List.length_take]; exact Nat.min_le_right _ _) hlen)) (by decide)
        · rw [uu, htk, List.filter_append, List.map_append, List.map_append]
          simp [ht]
      | false =>
        refine iteF ?_
        rw [htk, List.filter_append]
        simp [ht]
  · rw [List.length_map, List.take_length] at e
    rw [e]; exact hd
def rAbs1 : List V → Hp → VK → Prop := fun xs H Q => ∃ i, xs = [.int i] ∧ Q (.int (if i < 0 then -i else i)) H
def rGe : R2 := rI0 fun i j => .bl (decide (j ≤ i))
def rIntB : List V → Hp → VK → Prop := fun xs H Q => (∃ i, xs = [.int i] ∧ Q (.int i) H) ∨ ∃ k, xs = [.bl k] ∧ Q (.int (if k then 1 else 0)) H
def tOpened (K : PySem.W.Frag) : TS :=
  tSeq (tAsg (tLc (iList K (L2.tSl (rSlL K) (tVar 0) tNoPart (tPart (tC (.int 60))))) (gName 2) tYes (tCB rAbs1 (tCons (tVar 2) tNil)) [2]) (gName 1))
    (tRet (tLst (tCons (tOp rCat (tVar 1) (tOp rRep (tLst (tCons (tC (.int 23)) tNil)) (tCB rIntB (tCons (tOp (rEqD K) (tVar 1) (tLst tNil)) tNil))))
      (tCons (tC (.int 0)) (tCons (tLc (iList K (tVar 1)) (gName 2) (tTest (tOp rGe (tVar 2) (tOp rPowI (tC (.int 10)) (tC (.int 18))))) (tVar 2) [2]) tNil)))))
/-- the source as it is opened -/
def absI (i : Int) : Int := if i < 0 then -i else i
def cells0 (ns : List Int) : List Int := (ns.take 60).map absI
def openJ (ns : List Int) : LJ where
  cells := if cells0 ns = [] then [23] else cells0 ns
  n := 0
  great := (cells0 ns).filter fun c => decide (10 ^ 18 ≤ c)
  hc := by split <;> simp_all
  hl := by
    split
    · decide
    · unfold cells0; rw [List.length_map, List.length_take]; omega
  hg := Nat.le_trans (List.length_filter_le _ _) (by unfold cells0; rw [List.length_map, List.length_take]; omega)
def spOpen (K : PySem.W.Frag) : Sp := fun vs H Q _ => ∃ a ns, vs = [.ref a] ∧ ns.length ≤ 63 ∧ SqL K H a (ns.map V.int) ∧ ∀ (H' : Hp) (R : Addr) (A : Addr → Prop), Same H H' → (∀ b, A b → H b = none) → repL R (openJ ns) A H' → Q (.ref R) H'
theorem opened_pure {K : PySem.W.Frag} {N : List Str} (hN : N.length = 3) {vs : List V} {H : Hp} {Q : VK} {E : XK} (h : spOpen K vs H Q E) : tOpened K { nx := fun _ H' => Q .non H', rt := Q } (L2.start N vs) H := by
  obtain ⟨a, ns, rfl, hl, hS, q⟩ := h
  have st : L2.start N [.ref a] = [some (.ref a), none, none] := by unfold L2.start; rw [hN]; rfl
  rw [st]
  refine ⟨.ref a, rfl, ?_⟩
  refine ⟨60, rfl, a, _, rfl, hS, fun p hp => ?_⟩
  have hcut : cutV (ns.map V.int) none (some 60) = (ns.take 60).map V.int := by
    unfold cutV
    have e1 : HT.sIx (ns.map V.int).length 0 none = 0 := rfl
    have e2 : HT.sIx (ns.map V.int).length (ns.map V.int).length (some 60) = min 60 (ns.map V.int).length := rfl
    rw [e1, e2, List.drop_zero, Nat.sub_zero, List.map_take]
    by_cases h : 60 ≤ (ns.map V.int).length
    · rw [Nat.min_eq_left h]
    · rw [Nat.min_eq_right (by omega), List.take_length, List.take_of_length_le (by omega)]
  rw [hcut]
  have s1 : Same H (upd H p (.lst ((ns.take 60).map V.int))) := same_new hp
  refine ⟨p, rfl, ⟨_, .of upd_same⟩, fun c hc => ?_⟩
  refine lcI (σ := [some (.ref a), none, none]) (i := 2) absI (fun _ => true) (.of upd_same) hc (by rw [List.length_take]; omega) (fun x H Q h => h) (fun x H Q h => ⟨_, rfl, x, rfl, h⟩) ?_
  have hf : ((ns.take 60).filter fun _ => true) = ns.take 60 := List.filter_eq_self.mpr fun _ _ => rfl
  rw [hf]
  show tRet (tLst (tCons (tOp rCat (tVar 1) (tOp rRep (tLst (tCons (tC (.int 23)) tNil)) (tCB rIntB (tCons (tOp (rEqD K) (tVar 1) (tLst tNil)) tNil))))
      (tCons (tC (.int 0)) (tCons (tLc (iList K (tVar 1)) (gName 2) (tTest (tOp rGe (tVar 2) (tOp rPowI (tC (.int 10)) (tC (.int 18))))) (tVar 2) [2]) tNil)))) { nx := fun x H' => Q V.non H', rt := Q } [some (.ref a), some (.ref c), none] (upd (upd H p (.lst ((ns.take 60).map V.int))) c (.lst ((cells0 ns).map V.int)))
  have lc : (cells0 ns).length ≤ 60 := by unfold cells0; rw [List.length_map, List.length_take]; omega
  have s2 := s1.trans (same_new (o := .lst ((cells0 ns).map V.int)) hc)
  have hcn : H c = none := s1.free hc
  generalize hH2 : upd (upd H p (.lst ((ns.take 60).map V.int))) c (.lst ((cells0 ns).map V.int)) = H2 at *
  have hc2 : H2 c = some (.lst ((cells0 ns).map V.int)) := by rw [← hH2]; exact upd_same
  clear hH2 hc
  refine ⟨_, rfl, by decide, fun p1 n1 => ?_⟩
  have s3 := s2.trans (same_new (o := .lst [.int 23]) n1)
  have hc3 : upd H2 p1 (.lst [.int 23]) c = _ := (upd_ne (ne_of_none hc2 n1)).trans hc2
  refine ⟨_, rfl, by decide, fun p2 n2 => ?_⟩
  have hc4 : upd (upd H2 p1 (.lst [.int 23])) p2 (.lst []) c = _ := (upd_ne (ne_of_none hc3 n2)).trans hc3
  have h14 : upd (upd H2 p1 (.lst [.int 23])) p2 (.lst []) p1 = some (.lst [.int 23]) := (upd_ne (ne_of_none upd_same n2)).trans upd_same
  have s4 := s3.trans (same_new (o := .lst []) n2)
  generalize hH4 : upd (upd H2 p1 (.lst [.int 23])) p2 (.lst []) = H4 at *
  have hp2 : H4 p2 = some (.lst []) := by rw [← hH4]; exact upd_same
  clear hH4 n1 n2 hc3 s3
  have hev : PyData.eqv (.list ((cells0 ns).map PyData.int)) (.list []) = decide (cells0 ns = []) := by
    cases h : cells0 ns with
    | nil => rfl
    | cons x r => rw [eqv_cons]; simp
  refine ⟨.list ((cells0 ns).map PyData.int), .list [], .lst (.of hc4) (dpInts _), .lst (.of hp2) .nil, shaped_ints _, by decide, .inr ⟨_, rfl, ?_⟩⟩
  rw [hev]
  refine ⟨p1, _, _, rfl, rfl, h14, ?_, ?_, ?_, fun p3 n3 => ?_⟩
  · split <;> decide
  · split <;> decide
  · split <;> decide
  have s5 := s4.trans (same_new (o := HO.lst (List.replicate (if decide (cells0 ns = []) = true then (1 : Int) else 0).toNat [V.int 23]).flatten) n3)
  have hc5 : upd H4 p3 (.lst (List.replicate (if decide (cells0 ns = []) = true then (1 : Int) else 0).toNat [V.int 23]).flatten) c = _ := (upd_ne (ne_of_none hc4 n3)).trans hc4
  refine ⟨c, p3, _, _, rfl, rfl, hc5, upd_same, ?_, fun p4 n4 => ?_⟩
  · rw [List.length_map]
    have : (List.replicate (if decide (cells0 ns = []) = true then (1 : Int) else 0).toNat [V.int 23]).flatten.length ≤ 1 := by split <;> decide
    exact Nat.le_trans (show _ ≤ 1000 by omega) (by decide)
  have hcells : (cells0 ns).map V.int ++ (List.replicate (if decide (cells0 ns = []) = true then (1 : Int) else 0).toNat [V.int 23]).flatten = (openJ ns).cells.map V.int := by
    unfold openJ
    by_cases h : cells0 ns = []
    · simp [h]
    · simp [h]
  rw [hcells]
  have n40 := s5.free n4
  have s6 := s5.trans (same_new (o := .lst ((openJ ns).cells.map V.int)) n4)
  generalize hH5 : upd H4 p3 (.lst (List.replicate (if decide (cells0 ns = []) = true then (1 : Int) else 0).toNat [V.int 23]).flatten) = H5 at *
  have hc6 : upd H5 p4 (.lst ((openJ ns).cells.map V.int)) c = _ := (upd_ne (ne_of_none hc5 n4)).trans hc5
  have h46 : upd H5 p4 (.lst ((openJ ns).cells.map V.int)) p4 = some (.lst ((openJ ns).cells.map V.int)) := upd_same
  generalize hH6 : upd H5 p4 (.lst ((openJ ns).cells.map V.int)) = H6 at *
  clear hH6 hH5
  refine ⟨_, rfl, c, rfl, ⟨_, .of hc6⟩, fun e ne => ?_⟩
  refine lcI (σ := [some (.ref a), some (.ref c), none]) (i := 2) id (fun x => decide (10 ^ 18 ≤ x)) (.of hc6) ne (by omega) (fun x H Q h => ⟨_, rfl, _, _, rfl, rfl, ⟨by decide, by decide, by decide⟩, _, _, rfl, rfl, _, rfl, h⟩) (fun x H Q h => ⟨_, rfl, h⟩) ?_
  rw [List.map_id]
  refine ⟨(show 3 ≤ sizeLine by decide), fun R nR => ?_⟩
  have ne0 := s6.free ne
  have s7 := s6.trans (same_new (o := .lst (((cells0 ns).filter fun x => decide (10 ^ 18 ≤ x)).map V.int)) ne)
  have nR0 := s7.free nR
  have r4 : p4 ≠ R := ne_of_none ((upd_ne (ne_of_none h46 ne)).trans h46) nR
  have re : e ≠ R := ne_of_none upd_same nR
  refine q _ R (fun b => b = R ∨ b = p4 ∨ b = e) (s7.trans (same_new nR)) (fun b hb => ?_) ⟨p4, e, r4, re, ne_of_none h46 ne, upd_same, ?_, ?_, fun b => Iff.rfl⟩
  · rcases hb with rfl | rfl | rfl
    · exact nR0
    · exact n40
    · exact ne0
  · rw [upd_ne r4, upd_ne (ne_of_none h46 ne)]; exact h46
  · rw [upd_ne re, upd_same]; rfl
end Mp

/-! NL: a law that opens its source first. -/
namespace Mp
open PySem PySem.Spec L2
open PyProof.Rows hiding St
def blkB (N : List Str) (sc scope : Scope) (own : List (Str × Nat)) : Bool :=
  decide (scope.kind = .function) && decide (∀ y ∈ scope.names, scope.names.lookup y.1 = some y.2) && decide (∀ p ∈ own, N[p.2]? = some p.1) &&
    decide (∀ y ∈ scope.names, y.2 = .free → sc.names.lookup y.1 = some .cell ∨ sc.names.lookup y.1 = some .free) && decide (∀ y ∈ scope.names, y.2 = .local ∨ y.2 = .cell → y.1 ∈ own.map (·.1) ∨ y.1 ∉ N)
theorem blk_of {N' : List Str} {sc' scope : Scope} {own : List (Str × Nat)} (N : List Str) (sc : Scope) (hN : N' = N) (hs : sc' = sc) (h : blkB N sc scope own = true) : BlkOk N' sc' scope own := by
  subst hN hs
  unfold blkB at h
  simp only [Bool.and_eq_true, decide_eq_true_eq] at h
  obtain ⟨⟨⟨⟨h1, h2⟩, h3⟩, h4⟩, h5⟩ := h
  exact ⟨h1, h2, h3, h4, h5⟩
def m0 (k : Nat) : Sd := none :: some .jar :: List.replicate (k - 2) none
/-- the promise of a def that opens a source -/
def spOpenG {J : Type} (Sf : Addr → Js J) (Good : J → Prop) (K : PySem.W.Frag) : Sp := fun vs H Q _ => ∃ (a : Addr) (ns : List Int), vs = [.ref a] ∧ ns.length ≤ 63 ∧ SqL K H a (ns.map V.int) ∧ ∀ (H' : Hp) (R : Addr) (A : Addr → Prop) (j : J), Same H H' → (∀ b, A b → H b = none) → Good j → (Sf R).rep j (fun _ => none) A H' → Q (.ref R) H'
theorem law_pureG {J : Type} {Sf : Addr → Js J} {Good : J → Prop} {K : PySem.W.Frag} {N : List Str} (hR : ∀ R, (Sf R).R = .ref R) (hN : 2 ≤ N.length) {M : Nat → Bool} (hM : ∀ i, i < 2 → M i = false) {f : Sv J} (hlaw : ∀ j, Good j → f (m0 N.length) j (fun l _ _ => l = .ret (.bl true)) xNo) {vs : List V} {H : Hp} {Q : VK} {E : XK} (h : spLaw K vs H Q E) :
    tSeq (tAsg (tCall (spOpenG Sf Good K) [] E0 (tCons (tVar 0) tNil)) (gName 1)) (fun D σ H => ∃ RB : Addr × Bs, rdS (Sf RB.1) RB.2 M W0 f D σ H) { nx := fun _ H' => Q .non H', rt := Q } (L2.start N vs) H := by
  obtain ⟨a, ns, rfl, hl, hb, hS, sM, q⟩ := h
  have st : L2.start N [.ref a] = some (.ref a) :: none :: List.replicate (N.length - 2) none := by
    unfold L2.start
    obtain ⟨k, hk⟩ : ∃ k, N.length = k + 2 := ⟨N.length - 2, by omega⟩
    rw [hk]
    rfl
  rw [st]
  refine ⟨_, rfl, a, ns, rfl, hl, hS, fun H' R A j sm fr gd rp => ?_⟩
  have hf := hlaw j gd
  refine ⟨(R, ⟨fun _ => none, H', A⟩), ⟨fun _ => none, fun _ => none, A⟩, m0 N.length, j, _, _, ⟨⟨fun _ _ e => e, fun _ _ e => (nomatch e), fun _ _ e => (nomatch e), rp, fun _ _ e => e, fun _ _ e => (nomatch e), fun _ e => .inl e, fun _ _ e _ => e, fun _ e => e, let ⟨o, u, e⟩ := sM; ⟨o, u, sm _ _ e⟩⟩, ?_⟩, hf, fun fl m' j' hfl => ?_, XOut.no⟩
  · have lenE : ((some (V.ref a) :: none :: List.replicate (N.length - 2) none : St).set 1 (some (.ref R))).length = (m0 N.length).length := by simp [m0]
    have only : ∀ i d, (m0 N.length)[i]? = some (some d) → i = 1 ∧ d = .jar := fun i d e => by
      unfold m0 at e
      match i, e with
      | 0, e => simp at e
      | 1, e => simp at e; exact ⟨rfl, e.symm⟩
      | i + 2, e =>
        simp only [List.getElem?_cons_succ, List.getElem?_replicate] at e
        split at e <;> cases e
    refine ⟨lenE, fun i d e _ => ?_, fun i d e m => ?_, fun i k b d d' e _ m _ _ _ => ?_⟩
    · obtain ⟨rfl, rfl⟩ := only i d e
      exact ⟨.ref R, rfl, by rw [← hR R]; exact .jar⟩
    · obtain ⟨rfl, rfl⟩ := only i d e
      rw [hM 1 (by decide)] at m; cases m
    · obtain ⟨rfl, rfl⟩ := only i d e
      rw [hM 1 (by decide)] at m; cases m
  · subst hfl
    intro g' H2 v ok rv
    rw [bl_of rv]
    exact q H2
/-- a law's start: the source drawn from a few times at most -/
def Few (n : Nat) : Prop := n ≤ 1000000
theorem open_lift {K : PySem.W.Frag} {cl xc : Nat → Addr} {xf : Nat → Str} {vs : List V} {H : Hp} {Q : VK} {E : XK} (h : spOpenG (jsN K cl xc xf) Few K vs H Q E) : spOpen K vs H Q E := by
  obtain ⟨a, ns, e, l, s, q⟩ := h
  exact ⟨a, ns, e, l, s, fun H' R A sm fr rp => q H' R A 0 sm fr (Nat.zero_le _) ⟨_, rfl, rp⟩⟩
end Mp

/-! MpD: the random source of the laws k37 to k47. -/
namespace Mp
open PySem PySem.Spec L2
open PyProof.Rows hiding St
structure DJ where
  great : List Int
  small : Int
  n : Nat
  hg : great.length ≤ 100
  h0 : 0 ≤ small
  h1 : small < 1000000000039
/-- without the zeros at its end -/
def strip : List Int → List Int
  | [] => []
  | x :: r => match strip r with
    | [] => if x = 0 then [] else [x]
    | y :: s => x :: y :: s
theorem strip_len : ∀ (l : List Int), (strip l).length ≤ l.length
  | [] => Nat.le_refl _
  | x :: r => by
    have := strip_len r
    unfold strip
    split
    · split <;> simp
    · rename_i h; rw [h] at this; simp at this ⊢; omega
theorem strip_snoc0 : ∀ (l : List Int), strip (l ++ [0]) = strip l
  | [] => rfl
  | x :: r => by
    show strip (x :: (r ++ [0])) = strip (x :: r)
    unfold strip
    rw [strip_snoc0 r]
theorem strip_snoc : ∀ (l : List Int) {z : Int}, z ≠ 0 → strip (l ++ [z]) = l ++ [z]
  | [], z, h => by unfold strip; simp [strip, h]
  | x :: r, z, h => by
    show strip (x :: (r ++ [z])) = _
    unfold strip
    rw [strip_snoc r h]
    cases hr : r ++ [z] with
    | nil => simp at hr
    | cons y s => simp [hr]
def rnd1 (s : Int) (n : Nat) : Int := (s * 92821 + ((n : Int) + 1) * 7919 + 17) % 1000000000039
theorem rnd1_rng (s : Int) (n : Nat) : 0 ≤ rnd1 s n ∧ rnd1 s n < 1000000000039 := ⟨Int.emod_nonneg _ (by decide), Int.emod_lt_of_pos _ (by decide)⟩
def DJ.roll (j : DJ) (k : Int) : Int × DJ := match h : (strip j.great).getLast? with
  | some z => (z % k, ⟨(strip j.great).dropLast ++ [z / k], j.small, j.n, by
      have := strip_len j.great; have := j.hg
      have h2 : (strip j.great) ≠ [] := fun q => by rw [q] at h; cases h
      have := List.length_pos_iff.mpr h2
      simp; omega, j.h0, j.h1⟩)
  | none => ((rnd1 j.small j.n * rnd1 j.small j.n + ((j.n : Int) + 1)) % 999999999989 / 5 % k, ⟨[], rnd1 j.small j.n, j.n + 1, by simp, (rnd1_rng _ _).1, (rnd1_rng _ _).2⟩)
theorem DJ.roll_rng (j : DJ) {k : Int} (hk : 0 < k) : 0 ≤ (j.roll k).1 ∧ (j.roll k).1 < k := by
  unfold DJ.roll
  split
  · exact ⟨Int.emod_nonneg _ (by omega), Int.emod_lt_of_pos _ hk⟩
  · exact ⟨Int.emod_nonneg _ (by omega), Int.emod_lt_of_pos _ hk⟩
theorem DJ.roll_n (j : DJ) (k : Int) : (j.roll k).2.n ≤ j.n + 1 := by
  unfold DJ.roll
  split
  · exact Nat.le_succ _
  · exact Nat.le_refl _
def rollF : FvO DJ := fun ds j => match ds with
  | [.jar, .int k] => if decide (0 < k) && sm k && decide (j.n < NMAX) then some (.int (j.roll k).1, (j.roll k).2) else none
  | _ => none
def repD (R : Addr) (j : DJ) (A : Addr → Prop) (H : Hp) : Prop := ∃ e, e ≠ R ∧ H R = some (.lst [.ref e, .int j.small, .int (j.n : Nat)]) ∧ H e = some (.lst (j.great.map V.int)) ∧ ∀ b, A b ↔ b = R ∨ b = e
def jsD (K : PySem.W.Frag) (R : Addr) : Js DJ where
  K := K
  R := .ref R
  cl := fun _ => 0
  xc := fun _ => 0
  xf := fun _ => ""
  rep := fun j _ A H => repD R j A H
  frame := fun {j F F' A H H'} h _ q => by
    obtain ⟨e, h1, h4, h6, h7⟩ := h
    exact ⟨e, h1, by rw [q R ((h7 R).mpr (.inl rfl))]; exact h4, by rw [q e ((h7 e).mpr (.inr rfl))]; exact h6, h7⟩
  dom := fun {j F A H b} h a => by
    obtain ⟨e, h1, h4, h6, h7⟩ := h
    rcases (h7 b).mp a with rfl | rfl
    · rw [h4]; simp
    · rw [h6]; simp
theorem Out.postD {K : PySem.W.Frag} {R e' : Addr} {F H H' : Hp} {A : Addr → Prop} {j' : DJ} (h : Out A H H') (fh : Same F H) (fa : ∀ b o, F b = some o → ¬ A b) (aR : A R) (he : A e' ∨ H e' = none) (ne : e' ≠ R)
    (h1 : H' R = some (.lst [.ref e', .int j'.small, .int (j'.n : Nat)])) (h2 : H' e' = some (.lst (j'.great.map V.int))) (sm : ∃ o u, H sysModules = some (.frz o u)) (na : ¬ A sysModules) : FPost (jsD K R) F A H F (fun b => b = R ∨ b = e') H' j' := by
  refine ⟨Same.refl _, fun b o e => h.keep b o (fh b o e) (fa b o e), fun b o e z => ?_, ⟨e', ne, h1, h2, fun b => Iff.rfl⟩, h.keep, fun b o e => .inl e, fun b z => ?_, h.dm, let ⟨o, u, e⟩ := sm; ⟨o, u, h.keep _ _ e na⟩⟩
  · rcases z with z | z
    · exact fa b o e (by rw [z]; exact aR)
    · subst z
      rcases he with he | he
      · exact fa b o e he
      · rw [fh b o e] at he
        cases he
  · rcases z with z | z
    · exact .inl (by rw [z]; exact aR)
    · rw [z]; exact he
def tNeg1 : TE := tUn (rU fun i => .int (-i)) (tC (.int 1))
def tD0 (K : PySem.W.Frag) : TE := tOp (rIxL K) (tVar 0) (tC (.int 0))
def tRoll (K : PySem.W.Frag) : TS :=
  tSeq (tWhile (tAnd (tTest (tOp (rNeD K) (tD0 K) (tLst tNil))) (tTest (tOp rEq (tOp (rIxL K) (tD0 K) tNeg1) (tC (.int 0)))))
    (tAsg (L2.tSl (rSlL K) (tD0 K) tNoPart (tPart tNeg1)) (gSub (tVar 0) (tC (.int 0)) rSetL)))
  (tSeq (tIfS (tTest (tOp (rNeD K) (tD0 K) (tLst tNil)))
    (tSeq (tAsg (tOp (rIxL K) (tD0 K) tNeg1) (gName 2))
      (tSeq (tAsg (tOp rCat (L2.tSl (rSlL K) (tD0 K) tNoPart (tPart tNeg1)) (tLst (tCons (tOp rDivW (tVar 2) (tVar 1)) tNil))) (gSub (tVar 0) (tC (.int 0)) rSetL))
        (tRet (tOp rMod (tVar 2) (tVar 1))))) tNext)
  (tSeq (tAsg (tOp rAddI (tOp (rIxL K) (tVar 0) (tC (.int 2))) (tC (.int 1))) (gSub (tVar 0) (tC (.int 2)) rSetL))
  (tSeq (tAsg (tOp rMod (tOp rAddI (tOp rAddI (tOp rMulW (tOp (rIxL K) (tVar 0) (tC (.int 1))) (tC (.int 92821))) (tOp rMulW (tOp (rIxL K) (tVar 0) (tC (.int 2))) (tC (.int 7919)))) (tC (.int 17))) (tC (.int 1000000000039))) (gSub (tVar 0) (tC (.int 1)) rSetL))
  (tRet (tOp rMod (tOp rDivW (tOp rMod (tOp rAddI (tOp rMulW (tOp (rIxL K) (tVar 0) (tC (.int 1))) (tOp (rIxL K) (tVar 0) (tC (.int 1)))) (tOp (rIxL K) (tVar 0) (tC (.int 2)))) (tC (.int 999999999989))) (tC (.int 5))) (tVar 1))))))
theorem lastI {gs : List Int} {z : Int} : atI ((gs ++ [z]).map V.int) (-1) = some (.int z) := by
  have hx : ixN ((gs ++ [z]).map V.int).length (-1) = some gs.length := by
    unfold ixN
    rw [if_neg (by decide), if_pos (by simp; omega)]
    simp
    omega
  unfold atI
  rw [hx, Option.bind_some]
  simp
theorem cut_last {gs : List Int} {z : Int} : cutV ((gs ++ [z]).map V.int) none (some (-1)) = gs.map V.int := by
  unfold cutV
  have e1 : HT.sIx ((gs ++ [z]).map V.int).length 0 none = 0 := rfl
  have e2 : HT.sIx ((gs ++ [z]).map V.int).length ((gs ++ [z]).map V.int).length (some (-1)) = gs.length := by
    unfold HT.sIx
    simp
    omega
  rw [e1, e2, List.drop_zero, Nat.sub_zero, List.map_append]
  simp
theorem roll_pure {K : PySem.W.Frag} {R : Addr} {N : List Str} (hN : N.length = 3) {vs : List V} {H : Hp} {Q : VK} {E : XK} (h : spFO (jsD K R) 2 rollF vs H Q E) : tRoll K { nx := fun _ H' => Q .non H', rt := Q } (L2.start N vs) H := by
  obtain ⟨F, A, j, ds, d, j', fh, fa, jr, sM, rp, hl, hf, q⟩ := h
  unfold rollF at hf
  split at hf
  · rename_i k
    split at hf
    · rename_i hc
      simp only [Bool.and_eq_true, decide_eq_true_eq] at hc
      obtain ⟨⟨c1, c2⟩, c3⟩ := hc
      cases hf
      obtain ⟨e, h1, h4, h6, h7⟩ : repD R j A H := jr
      cases rp with
      | cons r1 rp =>
        cases rp with
        | cons r2 rp =>
          cases rp
          cases r1
          cases r2
          have st : L2.start N [.ref R, .int k] = [some (.ref R), some (.int k), none] := by
            unfold L2.start; rw [hN]; rfl
          show tRoll K _ (L2.start N [.ref R, .int k]) H
          rw [st]
          have aR : A R := (h7 R).mpr (.inl rfl)
          have ae : A e := (h7 e).mpr (.inr rfl)
          have na : ¬ A sysModules := fun z => by
            obtain ⟨o, u, eo⟩ := sM
            rcases (h7 _).mp z with z | z
            · rw [z, h4] at eo; cases eo
            · rw [z, h6] at eo; cases eo
          have kdiv : ∀ i, CDivW i k := fun _ => ⟨c1, Nat.lt_of_lt_of_le (sm_log c2) (by decide)⟩
          have hnm : j.n < 1000000000 := c3
          have j0 := j.h0
          have j1 := j.h1
          -- the loop
          refine ⟨fun m σ H' => ∃ (gs : List Int) (e' : Addr), σ = [some (.ref R), some (.int k), none] ∧ gs.length = m ∧ gs.length ≤ 100 ∧ e' ≠ R ∧ (A e' ∨ H e' = none) ∧ H' R = some (.lst [.ref e', .int j.small, .int (j.n : Nat)]) ∧ H' e' = some (.lst (gs.map V.int)) ∧ Out A H H' ∧ strip gs = strip j.great,
            ⟨j.great.length, j.great, e, rfl, rfl, j.hg, h1, .inl ae, h4, h6, Out.refl A H, rfl⟩, ?_⟩
          rintro m σ H' ⟨gs, e', rfl, rfl, hg, hne, hae, hR, he, out, hst⟩
          refine ⟨_, rfl, R, _, 0, .ref e', rfl, rfl, .of hR, rfl, by decide, fun p hp => ?_⟩
          have ne1 : e' ≠ p := ne_of_none he hp
          have ne2 : R ≠ p := ne_of_none hR hp
          have he' : upd H' p (.lst []) e' = some (.lst (gs.map V.int)) := by rw [upd_ne ne1]; exact he
          have hR' : upd H' p (.lst []) R = _ := (upd_ne ne2).trans hR
          have o2 := out.new hp (.lst [])
          generalize hH2 : upd H' p (.lst []) = H2 at *
          have hpp : H2 p = some (.lst []) := by rw [← hH2]; exact upd_same
          clear hH2 hp hR he out
          refine ⟨.list (gs.map PyData.int), .list [], .lst (.of he') (dpInts gs), .lst (.of hpp) .nil, shaped_ints gs, by decide, _, rfl, ?_⟩
          have go : ∀ (gs' : List Int) (z : Int) (H3 : Hp), gs = gs' ++ [z] → H3 R = some (.lst [.ref e', .int j.small, .int (j.n : Nat)]) → H3 e' = some (.lst (gs.map V.int)) → Out A H H3 → z ≠ 0 →
              tSeq (tIfS (tTest (tOp (rNeD K) (tD0 K) (tLst tNil)))
                (tSeq (tAsg (tOp (rIxL K) (tD0 K) tNeg1) (gName 2))
                  (tSeq (tAsg (tOp rCat (L2.tSl (rSlL K) (tD0 K) tNoPart (tPart tNeg1)) (tLst (tCons (tOp rDivW (tVar 2) (tVar 1)) tNil))) (gSub (tVar 0) (tC (.int 0)) rSetL))
                    (tRet (tOp rMod (tVar 2) (tVar 1))))) tNext)
              (tSeq (tAsg (tOp rAddI (tOp (rIxL K) (tVar 0) (tC (.int 2))) (tC (.int 1))) (gSub (tVar 0) (tC (.int 2)) rSetL))
              (tSeq (tAsg (tOp rMod (tOp rAddI (tOp rAddI (tOp rMulW (tOp (rIxL K) (tVar 0) (tC (.int 1))) (tC (.int 92821))) (tOp rMulW (tOp (rIxL K) (tVar 0) (tC (.int 2))) (tC (.int 7919)))) (tC (.int 17))) (tC (.int 1000000000039))) (gSub (tVar 0) (tC (.int 1)) rSetL))
              (tRet (tOp rMod (tOp rDivW (tOp rMod (tOp rAddI (tOp rMulW (tOp (rIxL K) (tVar 0) (tC (.int 1))) (tOp (rIxL K) (tVar 0) (tC (.int 1)))) (tOp (rIxL K) (tVar 0) (tC (.int 2)))) (tC (.int 999999999989))) (tC (.int 5))) (tVar 1))))) { nx := fun _ H' => Q .non H', rt := Q } [some (.ref R), some (.int k), none] H3 := by
            intro gs' z H3 egs hR3 he3 out3 hz
            refine ⟨_, rfl, R, _, 0, .ref e', rfl, rfl, .of hR3, rfl, by decide, fun p3 hp3 => ?_⟩
            have he4 : upd H3 p3 (.lst []) e' = some (.lst (gs.map V.int)) := by rw [upd_ne (ne_of_none he3 hp3)]; exact he3
            have hR4 : upd H3 p3 (.lst []) R = _ := (upd_ne (ne_of_none hR3 hp3)).trans hR3
            have o4 := out3.new hp3 (.lst [])
            generalize hH4 : upd H3 p3 (.lst []) = H4 at *
            have hpp3 : H4 p3 = some (.lst []) := by rw [← hH4]; exact upd_same
            clear hH4
            refine ⟨.list (gs.map PyData.int), .list [], .lst (.of he4) (dpInts gs), .lst (.of hpp3) .nil, shaped_ints gs, by decide, _, rfl, ?_⟩
            have hev : (!PyData.eqv (.list (gs.map PyData.int)) (.list [])) = true := by
              rw [egs]
              cases gs' with
              | nil => rw [List.nil_append, eqv_cons]; rfl
              | cons a b => rw [List.cons_append, eqv_cons]; rfl
            rw [hev]
            refine iteT ?_
            refine ⟨_, rfl, R, _, 0, .ref e', rfl, rfl, .of hR4, rfl, 1, rfl, e', _, -1, .int z, rfl, rfl, .of he4, by rw [egs]; exact lastI, ?_⟩
            refine ⟨_, rfl, R, _, 0, .ref e', rfl, rfl, .of hR4, rfl, 1, rfl, -1, rfl, e', _, rfl, .of he4, fun p5 hp5 => ?_⟩
            rw [egs, cut_last]
            have hR5 : upd H4 p5 (.lst (gs'.map V.int)) R = _ := (upd_ne (ne_of_none hR4 hp5)).trans hR4
            have o5 := o4.new hp5 (.lst (gs'.map V.int))
            generalize hH5 : upd H4 p5 (.lst (gs'.map V.int)) = H5 at *
            have h55 : H5 p5 = some (.lst (gs'.map V.int)) := by rw [← hH5]; exact upd_same
            clear hH5
            refine ⟨_, rfl, _, rfl, z, k, rfl, rfl, kdiv z, (show 1 ≤ sizeLine by decide), fun p6 hp6 => ?_⟩
            have hR6 : upd H5 p6 (.lst [.int (z / k)]) R = _ := (upd_ne (ne_of_none hR5 hp6)).trans hR5
            have h56 : upd H5 p6 (.lst [.int (z / k)]) p5 = _ := (upd_ne (ne_of_none h55 hp6)).trans h55
            have o6 := o5.new hp6 (.lst [.int (z / k)])
            generalize hH6 : upd H5 p6 (.lst [.int (z / k)]) = H6 at *
            have h66 : H6 p6 = some (.lst [.int (z / k)]) := by rw [← hH6]; exact upd_same
            clear hH6
            refine ⟨p5, p6, _, _, rfl, rfl, h56, h66, ?_, fun p7 hp7 => ?_⟩
            · rw [List.length_map]
              rw [egs] at hg
              exact Nat.le_trans (show gs'.length + 1 ≤ 1000 by simp at hg; omega) (by decide)
            have hR7 : upd H6 p7 (.lst (gs'.map V.int ++ [.int (z / k)])) R = _ := (upd_ne (ne_of_none hR6 hp7)).trans hR6
            have o7 := o6.new hp7 (.lst (gs'.map V.int ++ [.int (z / k)]))
            have n7 : H p7 = none := o6.dm p7 hp7
            generalize hH7 : upd H6 p7 (.lst (gs'.map V.int ++ [.int (z / k)])) = H7 at *
            have h77 : H7 p7 = some (.lst (gs'.map V.int ++ [.int (z / k)])) := by rw [← hH7]; exact upd_same
            clear hH7
            have ne7 : p7 ≠ R := (ne_of_none hR6 hp7).symm
            refine ⟨_, rfl, R, _, 0, 0, rfl, rfl, hR7, rfl, ?_⟩
            refine ⟨_, rfl, _, rfl, z, k, rfl, rfl, c1, ?_⟩
            have hgl : (strip j.great) = gs' ++ [z] := by rw [← hst, egs, strip_snoc _ hz]
            have hv : (j.roll k).1 = z % k ∧ (j.roll k).2.great = gs' ++ [z / k] ∧ (j.roll k).2.small = j.small ∧ (j.roll k).2.n = j.n := by
              unfold DJ.roll
              split
              · rename_i z' hz'
                rw [hgl] at hz'
                simp at hz'
                subst hz'
                exact ⟨rfl, by simp [hgl], rfl, rfl⟩
              · rename_i hz'
                rw [hgl] at hz'
                simp at hz'
            obtain ⟨v1, v2, v3, v4⟩ := hv
            refine q F _ _ _ ((o7.at aR _).postD fh fa aR (.inr n7) ne7 (by rw [upd_same, v3, v4]; rfl) ?_ sM na) (by rw [v1]; exact .int _)
            rw [upd_ne ne7, h77, v2, List.map_append]
            rfl
          rcases List.eq_nil_or_concat gs with rfl | ⟨gs', z, rfl⟩
          · refine iteF ?_
            refine iteF ?_
            -- nothing great is left
            refine ⟨_, rfl, R, _, 0, .ref e', rfl, rfl, .of hR', rfl, by decide, fun p3 hp3 => ?_⟩
            have he4 : upd H2 p3 (.lst []) e' = some (.lst (([] : List Int).map V.int)) := by rw [upd_ne (ne_of_none he' hp3)]; exact he'
            have hR4 : upd H2 p3 (.lst []) R = _ := (upd_ne (ne_of_none hR' hp3)).trans hR'
            have o4 := o2.new hp3 (.lst [])
            generalize hH4 : upd H2 p3 (.lst []) = H4 at *
            have hpp3 : H4 p3 = some (.lst []) := by rw [← hH4]; exact upd_same
            clear hH4
            refine ⟨.list (([] : List Int).map PyData.int), .list [], .lst (.of he4) (dpInts []), .lst (.of hpp3) .nil, shaped_ints [], by decide, _, rfl, ?_⟩
            refine iteF ?_
            obtain ⟨w1, w2⟩ := rnd1_rng j.small j.n
            refine ⟨_, rfl, R, _, 2, .int (j.n : Nat), rfl, rfl, .of hR4, rfl, _, _, rfl, rfl, _, rfl, R, _, 2, 2, rfl, rfl, hR4, rfl, ?_⟩
            have o5 := o4.at aR (.lst [.ref e', .int j.small, .int ((j.n : Nat) + 1)])
            have he5 : upd H4 R (.lst [.ref e', .int j.small, .int ((j.n : Nat) + 1)]) e' = _ := (upd_ne hne).trans he4
            have hR5 : upd H4 R (.lst [.ref e', .int j.small, .int ((j.n : Nat) + 1)]) R = some (.lst [.ref e', .int j.small, .int ((j.n : Nat) + 1)]) := upd_same
            show tSeq _ _ _ _ (upd H4 R (.lst [.ref e', .int j.small, .int ((j.n : Nat) + 1)]))
            generalize hH5 : upd H4 R (.lst [.ref e', .int j.small, .int ((j.n : Nat) + 1)]) = H5 at *
            clear hH5
            refine ⟨_, rfl, R, _, 1, .int j.small, rfl, rfl, .of hR5, rfl, _, _, rfl, rfl, wide_mul (a := 64) (b := 64) (by omega) (by omega) (by decide) (by decide) (by decide), _, rfl, R, _, 2, .int ((j.n : Nat) + 1), rfl, rfl, .of hR5, rfl, _, _, rfl, rfl, wide_mul (a := 64) (b := 64) (by omega) (by omega) (by decide) (by decide) (by decide), _, _, rfl, rfl, _, _, rfl, rfl, _, _, rfl, rfl, (show (0 : Int) < _ by decide), _, rfl, R, _, 1, 1, rfl, rfl, hR5, rfl, ?_⟩
            have o6 := o5.at aR (.lst [.ref e', .int (rnd1 j.small j.n), .int ((j.n : Nat) + 1)])
            have he6 : upd H5 R (.lst [.ref e', .int (rnd1 j.small j.n), .int ((j.n : Nat) + 1)]) e' = _ := (upd_ne hne).trans he5
            have hR6 : upd H5 R (.lst [.ref e', .int (rnd1 j.small j.n), .int ((j.n : Nat) + 1)]) R = some (.lst [.ref e', .int (rnd1 j.small j.n), .int ((j.n : Nat) + 1)]) := upd_same
            show tRet (tOp rMod (tOp rDivW (tOp rMod (tOp rAddI (tOp rMulW (tOp (rIxL K) (tVar 0) (tC (.int 1))) (tOp (rIxL K) (tVar 0) (tC (.int 1)))) (tOp (rIxL K) (tVar 0) (tC (.int 2)))) (tC (.int 999999999989))) (tC (.int 5))) (tVar 1)) { nx := fun x H' => Q V.non H', rt := Q } [some (V.ref R), some (V.int k), none] (upd H5 R (.lst [.ref e', .int (rnd1 j.small j.n), .int ((j.n : Nat) + 1)]))
            generalize hH6 : upd H5 R (.lst [.ref e', .int (rnd1 j.small j.n), .int ((j.n : Nat) + 1)]) = H6 at *
            clear hH6
            refine ⟨_, rfl, R, _, 1, .int (rnd1 j.small j.n), rfl, rfl, .of hR6, rfl, _, rfl, R, _, 1, .int (rnd1 j.small j.n), rfl, rfl, .of hR6, rfl, _, _, rfl, rfl, wide_mul (a := 64) (b := 64) (by omega) (by omega) (by decide) (by decide) (by decide), _, rfl, R, _, 2, .int ((j.n : Nat) + 1), rfl, rfl, .of hR6, rfl, _, _, rfl, rfl, _, _, rfl, rfl, (show (0 : Int) < _ by decide), _, _, rfl, rfl, ⟨by decide, by decide⟩, _, rfl, _, _, rfl, rfl, c1, ?_⟩
            have hgl : (strip j.great) = [] := by rw [← hst]; rfl
            have hv : (j.roll k).1 = (rnd1 j.small j.n * rnd1 j.small j.n + ((j.n : Int) + 1)) % 999999999989 / 5 % k ∧ (j.roll k).2.great = [] ∧ (j.roll k).2.small = rnd1 j.small j.n ∧ (j.roll k).2.n = j.n + 1 := by
              unfold DJ.roll
              split
              · rename_i z' hz'
                rw [hgl] at hz'
                cases hz'
              · exact ⟨rfl, rfl, rfl, rfl⟩
            obtain ⟨v1, v2, v3, v4⟩ := hv
            exact q F _ _ _ (o6.postD fh fa aR hae hne (by rw [v3, v4]; exact hR6) (by rw [v2]; exact he6) sM na) (by rw [v1]; exact .int _)
          · rw [List.concat_eq_append] at *
            have hev : (!PyData.eqv (.list ((gs' ++ [z]).map PyData.int)) (.list [])) = true := by
              cases gs' with
              | nil => rw [List.nil_append, eqv_cons]; rfl
              | cons a b => rw [List.cons_append, eqv_cons]; rfl
            rw [hev]
            refine iteT ?_
            refine ⟨_, rfl, R, _, 0, .ref e', rfl, rfl, .of hR', rfl, 1, rfl, e', _, -1, .int z, rfl, rfl, .of he', lastI, rfl, _, rfl, ?_⟩
            by_cases hz : z = 0
            · subst hz
              refine iteT ?_
              refine ⟨fun σ H' => ∃ (gs : List Int) (e' : Addr), σ = [some (.ref R), some (.int k), none] ∧ gs.length < (gs' ++ [0]).length ∧ gs.length ≤ 100 ∧ e' ≠ R ∧ (A e' ∨ H e' = none) ∧ H' R = some (.lst [.ref e', .int j.small, .int (j.n : Nat)]) ∧ H' e' = some (.lst (gs.map V.int)) ∧ Out A H H' ∧ strip gs = strip j.great,
                fun σ' H' ⟨gs, e', a1, a2, a3⟩ => ⟨gs.length, a2, gs, e', a1, rfl, a3⟩, ?_⟩
              refine ⟨_, rfl, R, _, 0, .ref e', rfl, rfl, .of hR', rfl, 1, rfl, -1, rfl, e', _, rfl, .of he', fun p5 hp5 => ?_⟩
              rw [cut_last]
              have hR5 : upd H2 p5 (.lst (gs'.map V.int)) R = _ := (upd_ne (ne_of_none hR' hp5)).trans hR'
              have o5 := o2.new hp5 (.lst (gs'.map V.int))
              have n5 : H p5 = none := o2.dm p5 hp5
              have ne5 : p5 ≠ R := (ne_of_none hR' hp5).symm
              refine ⟨_, rfl, R, _, 0, 0, rfl, rfl, hR5, rfl, gs', p5, rfl, by simp, by simp at hg; omega, ne5, .inr n5, upd_same, ?_, o5.at aR _, ?_⟩
              · rw [upd_ne ne5]; exact upd_same
              · rw [← hst, strip_snoc0]
            · have hd : decide (V.int z = V.int 0) = false := by simpa using hz
              rw [hd]
              refine iteF ?_
              exact go gs' z H2 rfl hR' he' o2 hz
    · cases hf
  · cases hf

def jsND (K : PySem.W.Frag) (cl xc : Nat → Addr) (xf : Nat → Str) (R : Addr) : Js Nat where
  K := K
  R := .ref R
  cl := cl
  xc := xc
  xf := xf
  rep := fun n _ A H => ∃ j : DJ, j.n ≤ n ∧ repD R j A H
  frame := fun {n F F' A H H'} ⟨j, e, h⟩ s q => ⟨j, e, (jsD K R).frame (F := F) (F' := F') h s q⟩
  dom := fun {n F A H b} ⟨j, e, h⟩ a => (jsD K R).dom (F := F) h a
instance {K : PySem.W.Frag} {cl xc : Nat → Addr} {xf : Nat → Str} {R : Addr} : PureJ (jsND K cl xc xf R) := ⟨fun h => h⟩
theorem roll_spec {K : PySem.W.Frag} {cl xc : Nat → Addr} {xf : Nat → Str} {R : Addr} {vs : List V} {H : Hp} {Q : VK} {E : XK} (h : spF (jsND K cl xc xf R) 2 drawF vs H Q E) : spFO (jsD K R) 2 rollF vs H Q E := by
  obtain ⟨F, A, n, ds, P, Ep, fh, fa, ⟨j, hj, jr⟩, sM, rp, hl, ⟨k, rfl, h1, h2, h3, hp⟩, q, _⟩ := h
  have rp' : RpL (jsD K R) F [.jar, .int k] vs := by
    cases rp with
    | cons r1 rp =>
      cases rp with
      | cons r2 rp =>
        cases rp
        cases r1
        cases r2
        exact .cons .jar (.cons (.int _) .nil)
  refine ⟨F, A, j, _, .int (j.roll k).1, (j.roll k).2, fh, fa, jr, sM, rp', rfl, ?_, fun F' A' H' v p r => ?_⟩
  · show (if _ then _ else _) = _
    rw [if_pos (by simp [h1, h2]; omega)]
  · have hv : v = .int (j.roll k).1 := int_of r
    subst hv
    exact q _ _ F' A' H' _ (hp _ (j.roll_rng h1).1 (j.roll_rng h1).2) ⟨p.sub, p.fh, p.fa, ⟨_, Nat.le_trans (j.roll_n k) (Nat.succ_le_succ hj), p.jr⟩, p.keep, p.ff, p.af, p.dm, p.sm⟩ (.int _)
end Mp

/-! NQ: how the source of k37 to k47 is opened. -/
namespace Mp
open PySem PySem.Spec L2
open PyProof.Rows hiding St
def spOpenD (c : Nat) (K : PySem.W.Frag) : Sp := spOpenG (jsD K) (fun j => j.n = c) K
def rLtI : R2 := rI0 fun i j => .bl (decide (i < j))
def tAbs2 : TE := tCB rAbs1 (tCons (tVar 2) tNil)
def tTen18 : TE := tOp rPowI (tC (.int 10)) (tC (.int 18))
def tCut61 (K : PySem.W.Frag) : TE := L2.tSl (rSlL K) (tVar 0) tNoPart (tPart (tC (.int 61)))
def tOpenD (c : Int) (K : PySem.W.Frag) : TS :=
  tSeq (tAsg (tC (.int c)) (gName 1))
  (tSeq (tFor (iList K (tCut61 K)) (gName 2) (tIfS (tTest (tOp rLtI tAbs2 tTen18))
      (tAsg (tOp rMod (tOp rAddI (tOp rAddI (tOp rMulW (tVar 1) (tC (.int 48611))) tAbs2) (tOp rMulW (tC (.int 3)) (tCB rIntB (tCons (tOp rLtI (tVar 2) (tC (.int 0))) tNil)))) (tC (.int 1000000000039))) (gName 1)) tNext))
  (tRet (tLst (tCons (tLc (iList K (tCut61 K)) (gName 2) (tTest (tOp rGe tAbs2 tTen18)) tAbs2 [2]) (tCons (tVar 1) (tCons (tC (.int c)) tNil))))))
theorem cut61 {ns : List Int} : cutV (ns.map V.int) none (some 61) = (ns.take 61).map V.int := by
  unfold cutV
  have e1 : HT.sIx (ns.map V.int).length 0 none = 0 := rfl
  have e2 : HT.sIx (ns.map V.int).length (ns.map V.int).length (some 61) = min 61 (ns.map V.int).length := rfl
  rw [e1, e2, List.drop_zero, Nat.sub_zero, List.map_take]
  by_cases h : 61 ≤ (ns.map V.int).length
  · rw [Nat.min_eq_left h]
  · rw [Nat.min_eq_right (by omega), List.take_length, List.take_of_length_le (by omega)]
theorem openD_pure {c : Nat} (hc : c < 1000000) {K : PySem.W.Frag} {N : List Str} (hN : N.length = 3) {vs : List V} {H : Hp} {Q : VK} {E : XK} (h : spOpenD c K vs H Q E) : tOpenD c K { nx := fun _ H' => Q .non H', rt := Q } (L2.start N vs) H := by
  obtain ⟨a, ns, rfl, hl, hS, q⟩ := h
  have st : L2.start N [.ref a] = [some (.ref a), none, none] := by unfold L2.start; rw [hN]; rfl
  rw [st]
  refine ⟨.ref a, rfl, 61, rfl, a, _, rfl, hS, fun p hp => ?_⟩
  rw [cut61]
  have s1 : Same H (upd H p (.lst ((ns.take 61).map V.int))) := same_new hp
  generalize hH1 : upd H p (.lst ((ns.take 61).map V.int)) = H1 at *
  have hp1 : H1 p = some (.lst ((ns.take 61).map V.int)) := by rw [← hH1]; exact upd_same
  clear hH1
  refine ⟨p, rfl, ⟨_, .of hp1⟩, for_list (K := K) (a := p) (xs := (ns.take 61).map V.int) (fun i σ H' => H' = H1 ∧ ∃ (s : Int) (v : Option V), σ = [some (.ref a), some (.int s), v] ∧ 0 ≤ s ∧ s < 1000000000039) ⟨rfl, c, none, rfl, by omega, by omega⟩ (fun i σ H' _ h => by rw [h.1]; exact .of hp1) ?_ ?_⟩
  · rintro i y σ H' hi ⟨rfl, s, v, rfl, s0, s1'⟩
    obtain ⟨z, hz, rfl⟩ : ∃ z, (ns.take 61)[i]? = some z ∧ y = V.int z := by
      rw [List.getElem?_map, Option.map_eq_some_iff] at hi
      obtain ⟨z, h1, h2⟩ := hi
      exact ⟨z, h1, h2.symm⟩
    refine ⟨_, rfl, z, rfl, _, _, rfl, rfl, ⟨by decide, by decide, by decide⟩, _, _, rfl, rfl, _, rfl, ?_⟩
    by_cases hz2 : (if z < 0 then -z else z) < 10 ^ (18 : Int).toNat
    · rw [decide_eq_true hz2]
      refine iteT ?_
      refine ⟨_, rfl, _, _, rfl, rfl, wide_mul (a := 64) (b := 64) (by omega) (by omega) (by decide) (by decide) (by decide), _, rfl, z, rfl, _, _, rfl, rfl, _, rfl, _, _, rfl, rfl, .inr ⟨_, rfl, 3, _, rfl, rfl, ?_, _, _, rfl, rfl, _, _, rfl, rfl, (show (0 : Int) < _ by decide), rfl, _, some (.int z), rfl, Int.emod_nonneg _ (by decide), Int.emod_lt_of_pos _ (by decide)⟩⟩
      split <;> exact wide_mul (a := 64) (b := 64) (by decide) (by decide) (by decide) (by decide) (by decide)
    · rw [decide_eq_false hz2]
      refine iteF ?_
      exact ⟨rfl, s, some (.int z), rfl, s0, s1'⟩
  · rintro σ H' ⟨rfl, s, v, rfl, s0, s1'⟩
    refine ⟨.ref a, rfl, 61, rfl, a, _, rfl, s1.seq hS, fun p2 hp2 => ?_⟩
    rw [cut61]
    have s2 := s1.trans (same_new (o := .lst ((ns.take 61).map V.int)) hp2)
    refine ⟨p2, rfl, ⟨_, .of upd_same⟩, fun e ne => ?_⟩
    have ne0 := s2.free ne
    refine lcI (σ := [some (.ref a), some (.int s), v]) (i := 2) absI (fun x => decide (10 ^ 18 ≤ absI x)) (.of upd_same) ne (by rw [List.length_take]; omega) (fun x H Q h => ⟨_, rfl, x, rfl, _, _, rfl, rfl, ⟨by decide, by decide, by decide⟩, _, _, rfl, rfl, _, rfl, h⟩) (fun x H Q h => ⟨_, rfl, x, rfl, h⟩) ?_
    have s3 := s2.trans (same_new (o := .lst ((((ns.take 61).filter fun x => decide (10 ^ 18 ≤ absI x)).map absI).map V.int)) ne)
    refine ⟨_, rfl, (show 3 ≤ sizeLine by decide), fun R nR => ?_⟩
    have nR0 := s3.free nR
    have re : e ≠ R := ne_of_none upd_same nR
    refine q _ R (fun b => b = R ∨ b = e) ⟨((ns.take 61).filter fun x => decide (10 ^ 18 ≤ absI x)).map absI, s, c, ?_, s0, s1'⟩ (s3.trans (same_new nR)) (fun b hb => ?_) rfl ⟨e, re, upd_same, ?_, fun b => Iff.rfl⟩
    · rw [List.length_map]
      refine Nat.le_trans (List.length_filter_le _ _) ?_
      rw [List.length_take]; omega
    · rcases hb with rfl | rfl
      · exact nR0
      · exact ne0
    · rw [upd_ne re]; exact upd_same
theorem open_deal {c : Nat} (hc : c < 1000000) {K : PySem.W.Frag} {cl xc : Nat → Addr} {xf : Nat → Str} {vs : List V} {H : Hp} {Q : VK} {E : XK} (h : spOpenG (jsND K cl xc xf) Few K vs H Q E) : spOpenD c K vs H Q E := by
  obtain ⟨a, ns, e, l, s, q⟩ := h
  exact ⟨a, ns, e, l, s, fun H' R A j sm fr gd rp => q H' R A c sm fr (Nat.le_of_lt hc) ⟨j, Nat.le_of_eq gd, rp⟩⟩
end Mp

/-! NM: what a closure brings about, step by step. -/
namespace Mp
open PySem L2
variable {J : Type}
/-- kept from simp: what a thing of this type hangs on is not rewritten -/
inductive Tg {α β : Sort _} (a : α) (b : β) : Type | mk
/-- a call, a loop: what follows is not looked at -/
def WF (φ : Fv J) (ds : List D) (j : J) (P : D → J → Prop) (E : Ex → J → Prop) (_t : Tg P E := .mk) : Prop := φ ds j P E
def WL (γ : Gv) (fb : Sv J) (ds : List D) (m : Sd) (j : J) (P : Fl → Sd → J → Prop) (E : XP J) (_t : Tg P E := .mk) : Prop := forW γ fb ds m j P E
def WC (wm : Sd) (γ : Gv) (ft : Tv J) (fe : Ev J) (ds : List D) (j : J) (P : List D → J → Prop) (_t : Tg P True := .mk) : Prop := compW wm γ ft fe ds [] j P
def WH (tc : Tv J) (fb : Sv J) (m : Sd) (j : J) (P : Fl → Sd → J → Prop) (E : XP J) (_t : Tg P E := .mk) : Prop := sWhile tc fb m j P E
section
variable {f fa fb fc fe fk : Ev J} {fr : Av J} {t ta tb : Tv J} {s s1 s2 : Sv J} {m : Sd} {j : J} {P : D → J → Prop} {PT : Bool → J → Prop} {PA : List D → J → Prop} {PO : Option Int → J → Prop} {PS : Fl → Sd → J → Prop} {E : XP J} {i k l : Nat} {d : D} {fl fh : Pv J} {fi : Iv J} {γ : Gv} {φ ψ : D → D → Option D} {χ : D → Option D}
@[simp ↓] theorem a_var : eVar i m j P E = ∃ d, m[i]? = some (some d) ∧ P d j := rfl
@[simp ↓] theorem a_c : eC d m j P E = P d j := rfl
@[simp ↓] theorem a_op : eOp φ fa fb m j P E = fa m j (fun x j1 => fb m j1 (fun y j2 => ∃ z, φ x y = some z ∧ P z j2) E) E := rfl
@[simp ↓] theorem a_mt : eMt φ fa fb m j P E = fa m j (fun x j1 => isSq x ∧ fb m j1 (fun y j2 => ∃ z, φ x y = some z ∧ P z j2) E) E := rfl
@[simp ↓] theorem a_un : eUn χ fa m j P E = fa m j (fun x j1 => ∃ z, χ x = some z ∧ P z j1) E := rfl
@[simp ↓] theorem a_nl : aNil m j PA E = PA [] j := rfl
@[simp ↓] theorem a_cs : aCons fa fr m j PA E = fa m j (fun x j1 => fr m j1 (fun xs j2 => PA (x :: xs) j2) E) E := rfl
@[simp ↓] theorem a_tup : eTup fr m j P E = fr m j (fun xs j1 => xs.length ≤ LINE ∧ P (.tup xs) j1) E := rfl
@[simp ↓] theorem a_lst : eLst fr m j P E = fr m j (fun xs j1 => xs.length ≤ LINE ∧ P (.lst xs) j1) E := rfl
@[simp ↓] theorem a_b {χ : List D → Option D} : eB χ fr m j P E = fr m j (fun xs j1 => ∃ z, χ xs = some z ∧ P z j1) E := rfl
@[simp ↓] theorem a_call {φ : Fv J} : eCall φ fr m j P E = fr m j (fun xs j1 => WF φ xs j1 P (fun e j' => E e m j')) E := rfl
@[simp ↓] theorem a_callM {φ : Fv J} : eCallM φ fr m j P E = fr m j (fun xs j1 => WF φ xs j1 P (fun _ _ => False)) E := rfl
@[simp ↓] theorem a_pn : pNone m j PO E = PO none j := rfl
@[simp ↓] theorem a_ps : pSome f m j PO E = f m j (fun d j1 => ∃ i, d = .int i ∧ PO (some i) j1) E := rfl
@[simp ↓] theorem a_sl {φ : D → Option Int → Option Int → Option D} : eSl φ fa fl fh m j P E = fa m j (fun x j1 => fl m j1 (fun l j2 => fh m j2 (fun u j3 => ∃ z, φ x l u = some z ∧ P z j3) E) E) E := rfl
@[simp ↓] theorem a_if : eIf t fa fb m j P E = t m j (fun b j1 => if b = true then fa m j1 P E else fb m j1 P E) E := rfl
@[simp ↓] theorem a_to : tOf fa m j PT E = fa m j (fun x j1 => ∃ b, truD x = some b ∧ PT b j1) E := rfl
@[simp ↓] theorem a_tb : tBl fa m j PT E = fa m j (fun x j1 => ∃ b, x = .bl b ∧ PT b j1) E := rfl
@[simp ↓] theorem a_ta : tAndD ta tb m j PT E = ta m j (fun b j1 => if b = true then tb m j1 PT E else PT false j1) E := rfl
@[simp ↓] theorem a_tor : tOrD ta tb m j PT E = ta m j (fun b j1 => if b = true then PT true j1 else tb m j1 PT E) E := rfl
@[simp ↓] theorem a_tn : tNotD ta m j PT E = ta m j (fun b j1 => PT (!b) j1) E := rfl
@[simp ↓] theorem a_ty : tYesD m j PT E = PT true j := rfl
@[simp ↓] theorem a_ch : eChain φ ψ fa fb fc m j P E = fa m j (fun x j1 => fb m j1 (fun y j2 => ∃ b, φ x y = some (.bl b) ∧ if b = true then fc m j2 (fun z j3 => ∃ d, ψ y z = some d ∧ P d j3) E else P (.bl false) j2) E) E := rfl
@[simp ↓] theorem a_and : eAnd fa fb m j P E = fa m j (fun x j1 => ∃ b, truD x = some b ∧ if b = true then fb m j1 P E else P x j1) E := rfl
@[simp ↓] theorem a_or : eOr fa fb m j P E = fa m j (fun x j1 => ∃ b, truD x = some b ∧ if b = true then P x j1 else fb m j1 P E) E := rfl
@[simp ↓] theorem a_not : eNot fa m j P E = fa m j (fun x j1 => ∃ b, truD x = some b ∧ P (.bl (!b)) j1) E := rfl
@[simp ↓] theorem a_iseq : iSeq f m j PA E = f m j (fun d j1 => ∃ xs, seqL d = some xs ∧ PA xs j1) E := rfl
@[simp ↓] theorem a_ir1 : iRng1 f m j PA E = f m j (fun d j1 => ∃ n, d = .int n ∧ -LIM ≤ n ∧ n ≤ LIM ∧ PA (rngD 0 n.toNat) j1) E := rfl
@[simp ↓] theorem a_ir2 : iRng2 fa fb m j PA E = fa m j (fun d j1 => fb m j1 (fun d2 j2 => ∃ a b, d = .int a ∧ d2 = .int b ∧ -LIM ≤ a ∧ a ≤ LIM ∧ -LIM ≤ b ∧ b ≤ LIM ∧ PA (rngD a (b - a).toNat) j2) E) E := rfl
@[simp ↓] theorem a_ien : iEnm f m j PA E = f m j (fun d j1 => ∃ xs, d = .lst xs ∧ PA (enumD xs) j1) E := rfl
@[simp ↓] theorem a_izp : iZip fa fb m j PA E = fa m j (fun x j1 => fb m j1 (fun y j2 => ∃ zs, zipO x y = some zs ∧ PA zs j2) E) E := rfl
@[simp ↓] theorem a_lrg : eLrg fi m j P E = fi m j (fun ds j1 => ds.length ≤ LINE ∧ P (.lst ds) j1) E := rfl
@[simp ↓] theorem a_trg : eTrg fi m j P E = fi m j (fun ds j1 => ds.length ≤ LINE ∧ P (.tup ds) j1) E := rfl
@[simp ↓] theorem a_comp {vs : List Nat} : eComp vs fi γ t fe m j P E = fi m j (fun ds j1 => ds.length ≤ LINE ∧ WC (wipeD m vs) γ t fe ds j1 (fun ys j2 => P (.lst ys) j2)) E := rfl
@[simp ↓] theorem a_snil : sNil m j PS E = PS .next m j := rfl
@[simp ↓] theorem a_sseq : sSeq s1 s2 m j PS E = s1 m j (thenS s2 PS E) E := rfl
@[simp ↓] theorem a_th_n : thenS s2 PS E .next m j = s2 m j PS E := rfl
@[simp ↓] theorem a_th_b : thenS s2 PS E .brk m j = PS .brk m j := rfl
@[simp ↓] theorem a_th_c : thenS s2 PS E .cnt m j = PS .cnt m j := rfl
@[simp ↓] theorem a_th_r : thenS s2 PS E (.ret d) m j = PS (.ret d) m j := rfl
@[simp ↓] theorem a_sexp : sExpr f m j PS E = f m j (fun _ j1 => PS .next m j1) E := rfl
@[simp ↓] theorem a_sbrk : sBrk m j PS E = PS .brk m j := rfl
@[simp ↓] theorem a_scnt : sCnt m j PS E = PS .cnt m j := rfl
@[simp ↓] theorem a_snev : sNever m j PS E = False := rfl
@[simp ↓] theorem a_sret : sRet f m j PS E = f m j (fun d j1 => PS (.ret d) m j1) E := rfl
@[simp ↓] theorem a_srN : sRetN m j PS E = PS (.ret .non) m j := rfl
@[simp ↓] theorem a_sif : sIf t s1 s2 m j PS E = t m j (fun b j1 => if b = true then s1 m j1 PS E else s2 m j1 PS E) E := rfl
@[simp ↓] theorem a_sset : sSet i f m j PS E = f m j (fun d j1 => PS .next (m.set i (some d)) j1) E := rfl
@[simp ↓] theorem a_sasg : sAsg γ f m j PS E = f m j (fun d j1 => ∃ m1, γ d m = some m1 ∧ PS .next m1 j1) E := rfl
@[simp ↓] theorem a_saug : sAug φ i f m j PS E = ∃ x, m[i]? = some (some x) ∧ f m j (fun y j1 => ∃ z, φ x y = some z ∧ PS .next (m.set i (some z)) j1) E := rfl
@[simp ↓] theorem a_sfor : sFor fi γ s m j PS E = fi m j (fun ds j1 => WL γ s ds m j1 PS E) E := rfl
@[simp ↓] theorem a_swh : sWhile t s m j PS E = WH t s m j PS E := rfl
@[simp ↓] theorem a_spr2 : sPr2 i k fa fb m j PS E = fa m j (fun x j1 => fb m j1 (fun y j2 => PS .next ((m.set i (some x)).set k (some y)) j2) E) E := rfl
@[simp ↓] theorem a_spr3 : sPr3 i k l fa fb fc m j PS E = fa m j (fun x j1 => fb m j1 (fun y j2 => fc m j2 (fun z j3 => PS .next (((m.set i (some x)).set k (some y)).set l (some z)) j3) E) E) E := rfl
@[simp ↓] theorem a_sapp : sApp i f m j PS E = ∃ xs, m[i]? = some (some (.lst xs)) ∧ f m j (fun d j1 => xs.length < LINE ∧ PS .next (m.set i (some (.lst (xs ++ [d])))) j1) E := rfl
@[simp ↓] theorem a_sext : sExt i f m j PS E = ∃ xs, m[i]? = some (some (.lst xs)) ∧ f m j (fun d j1 => ∃ ys, d = .lst ys ∧ xs.length + ys.length ≤ LINE ∧ PS .next (m.set i (some (.lst (xs ++ ys)))) j1) E := rfl
@[simp ↓] theorem a_ssix : sSetIx i fk fe m j PS E = ∃ xs, m[i]? = some (some (.lst xs)) ∧ fe m j (fun d j1 => fk m j1 (fun kk j2 => ∃ k n, kk = .int k ∧ ixN xs.length k = some n ∧ PS .next (m.set i (some (.lst (xs.set n d)))) j2) E) E := rfl
@[simp ↓] theorem a_sapo : sAppPop i k f m j PS E = ∃ xs ys, m[i]? = some (some (.lst xs)) ∧ m[k]? = some (some (.lst ys)) ∧ i ≠ k ∧ f m j (fun d j1 => ∃ n y, d = .int n ∧ 0 ≤ n ∧ n < (ys.length : Int) ∧ xs.length < LINE ∧ ys.length ≤ LINE ∧ ys[n.toNat]? = some y ∧
    PS .next ((m.set k (some (.lst (ys.eraseIdx n.toNat)))).set i (some (.lst (xs ++ [y])))) j1) E := rfl
@[simp ↓] theorem a_spop : sPopTo i γ m j PS E = ∃ xs y m1, m[i]? = some (some (.lst xs)) ∧ xs.getLast? = some y ∧ γ y (m.set i (some (.lst xs.dropLast))) = some m1 ∧ PS .next m1 j := rfl
@[simp ↓] theorem a_spopa : sPopAt i f γ m j PS E = ∃ ys, m[i]? = some (some (.lst ys)) ∧ f m j (fun d j1 => ∃ n y m1, d = .int n ∧ 0 ≤ n ∧ n < (ys.length : Int) ∧ ys.length ≤ LINE ∧ ys[n.toNat]? = some y ∧ γ y (m.set i (some (.lst (ys.eraseIdx n.toNat)))) = some m1 ∧ PS .next m1 j1) E := rfl
theorem a_run {k n : Nat} {ds : List D} {E : Ex → J → Prop} (hl : ds.length = n) (h : s (startD k ds) j (endF P) (fun e _ j' => E e j')) : WF (runF k n s) ds j P E := ⟨hl, h⟩
@[simp ↓] theorem a_ef_r : endF P (.ret d) m j = P d j := rfl
@[simp ↓] theorem a_ef_n : endF P .next m j = P .non j := rfl
variable {N : Sd → J → Prop}
@[simp ↓] theorem a_tu_n : turnS N PS .next m j = N m j := rfl
@[simp ↓] theorem a_tu_c : turnS N PS .cnt m j = N m j := rfl
@[simp ↓] theorem a_tu_b : turnS N PS .brk m j = PS .next m j := rfl
@[simp ↓] theorem a_tu_r : turnS N PS (.ret d) m j = PS (.ret d) m j := rfl
end
/-- the slots are so (kept from simp) -/
def Is (m n : Sd) : Prop := m = n
/-! ### loops -/
section
variable {s : Sv J} {t : Tv J} {f : Ev J} {m wm : Sd} {j : J} {PS : Fl → Sd → J → Prop} {E : XP J} {γ : Gv} {P : List D → J → Prop}
theorem WF.mo {φ : Fv J} [h : MoF φ] {ds : List D} {P P' : D → J → Prop} {E E' : Ex → J → Prop} (h1 : WF φ ds j P E) (q : ∀ d j', P d j' → P' d j') (x : ∀ e j', E e j' → E' e j') : WF φ ds j P' E' := h.mo h1 q x
theorem wL_aux [h : MoS s] {Pv : Nat → Sd → J → Prop} {all : List D} (hs : ∀ k d m j, all[k]? = some d → Pv k m j → ∃ m1, γ d m = some m1 ∧ s m1 j (turnS (fun m2 j2 => Pv (k + 1) m2 j2) PS) E) (hd : ∀ m j, Pv all.length m j → PS .next m j) :
    ∀ (ds : List D) (k : Nat) (m : Sd) (j : J), all.drop k = ds → k ≤ all.length → Pv k m j → forW γ s ds m j PS E
  | [], k, m, j, e, hk, p => by
    have h0 := congrArg List.length e
    simp at h0
    have : k = all.length := by omega
    subst this
    exact hd m j p
  | d :: ds, k, m, j, e, hk, p => by
    have hlt : k < all.length := by
      have := congrArg List.length e
      simp at this; omega
    have hg : all[k]? = some d := by
      rw [List.drop_eq_getElem_cons hlt] at e
      rw [List.getElem?_eq_getElem hlt]
      exact congrArg some (List.cons.inj e).1
    obtain ⟨m1, e1, q⟩ := hs k d m j hg p
    refine ⟨m1, e1, h.mo q (turnS_mo (fun m2 j2 p2 => wL_aux hs hd ds (k + 1) m2 j2 ?_ hlt p2) fun _ _ _ z => z) fun _ _ _ z => z⟩
    rw [List.drop_eq_getElem_cons hlt] at e
    exact (List.cons.inj e).2
/-- a for by its invariant: Pv k m j holds where k items are done -/
theorem wL_inv [MoS s] {ds : List D} (Pv : Nat → Sd → J → Prop) (h0 : Pv 0 m j) (hs : ∀ k d m j, ds[k]? = some d → Pv k m j → ∃ m1, γ d m = some m1 ∧ s m1 j (turnS (fun m2 j2 => Pv (k + 1) m2 j2) PS) E) (hd : ∀ m j, Pv ds.length m j → PS .next m j) :
    WL γ s ds m j PS E := wL_aux hs hd ds 0 m j rfl (Nat.zero_le _) h0
theorem wL_nil : WL γ s [] m j PS E = PS .next m j := rfl
theorem wL_cons {d : D} {ds : List D} : WL γ s (d :: ds) m j PS E = ∃ m1, γ d m = some m1 ∧ s m1 j (turnS (fun m2 j2 => WL γ s ds m2 j2 PS E) PS) E := rfl
theorem wC_aux [ht : MoT t] [hf : MoE f] {Pv : Nat → List D → J → Prop} {all : List D} (hs : ∀ k d acc j, all[k]? = some d → Pv k acc j → ∃ m1, γ d wm = some m1 ∧ t m1 j (fun b j1 => if b = true then f m1 j1 (fun y j2 => Pv (k + 1) (acc ++ [y]) j2) xNo else Pv (k + 1) acc j1) xNo) (hd : ∀ ys j, Pv all.length ys j → P ys j) :
    ∀ (ds : List D) (k : Nat) (acc : List D) (j : J), all.drop k = ds → k ≤ all.length → Pv k acc j → compW wm γ t f ds acc j P
  | [], k, acc, j, e, hk, p => by
    have h0 := congrArg List.length e
    simp at h0
    have : k = all.length := by omega
    subst this
    exact hd acc j p
  | d :: ds, k, acc, j, e, hk, p => by
    have hlt : k < all.length := by
      have := congrArg List.length e
      simp at this; omega
    have hg : all[k]? = some d := by
      rw [List.drop_eq_getElem_cons hlt] at e
      rw [List.getElem?_eq_getElem hlt]
      exact congrArg some (List.cons.inj e).1
    have ed : all.drop (k + 1) = ds := by
      rw [List.drop_eq_getElem_cons hlt] at e
      exact (List.cons.inj e).2
    obtain ⟨m1, e1, q⟩ := hs k d acc j hg p
    exact ⟨m1, e1, ht.mo q (fun _ _ p => ite_mono p (fun p => hf.mo p (fun y j2 p2 => wC_aux hs hd ds (k + 1) _ j2 ed hlt p2) fun _ _ _ z => z) fun p => wC_aux hs hd ds (k + 1) _ _ ed hlt p) fun _ _ _ z => z⟩
/-- a comprehension by its invariant: k items are looked at, acc is made -/
theorem wC_inv [MoT t] [MoE f] {ds : List D} (Pv : Nat → List D → J → Prop) (h0 : Pv 0 [] j) (hs : ∀ k d acc j, ds[k]? = some d → Pv k acc j → ∃ m1, γ d wm = some m1 ∧ t m1 j (fun b j1 => if b = true then f m1 j1 (fun y j2 => Pv (k + 1) (acc ++ [y]) j2) xNo else Pv (k + 1) acc j1) xNo)
    (hd : ∀ ys j, Pv ds.length ys j → P ys j) : WC wm γ t f ds j P := wC_aux hs hd ds 0 [] j rfl (Nat.zero_le _) h0
/-- a comprehension over L, each item by itself -/
theorem wC_map [MoE f] {α : Type} {L : List α} {c : α → D} (h : α → D) (hs : ∀ x ∈ L, ∃ m1, γ (c x) wm = some m1 ∧ f m1 j (fun y j2 => y = h x ∧ j2 = j) xNo) (hd : P (L.map h) j) : WC wm γ tYesD f (L.map c) j P := by
  refine wC_inv (fun k acc j' => acc = (L.take k).map h ∧ j' = j) ⟨rfl, rfl⟩ (fun k d acc j' e ⟨e1, e2⟩ => ?_) fun ys j' ⟨e1, e2⟩ => ?_
  · rw [List.getElem?_map, Option.map_eq_some_iff] at e
    obtain ⟨x, hx, rfl⟩ := e
    subst e1 e2
    obtain ⟨m1, e3, q⟩ := hs x (List.mem_of_getElem? hx)
    refine ⟨m1, e3, ?_⟩
    show f m1 j' _ xNo
    refine MoE.mo q (fun y j2 ⟨e4, e5⟩ => ?_) fun _ _ _ z => z
    subst e4 e5
    refine ⟨?_, rfl⟩
    rw [List.take_add_one, hx]
    simp
  · rw [List.length_map, List.take_length] at e1
    rw [e1, e2]; exact hd
/-- .. those that pass a test -/
theorem wC_filter [MoT t] [MoE f] {α : Type} {L : List α} {c : α → D} (p : α → Bool) (h : α → D) (hs : ∀ x ∈ L, ∃ m1, γ (c x) wm = some m1 ∧ t m1 j (fun b j1 => b = p x ∧ j1 = j) xNo ∧ (p x = true → f m1 j (fun y j2 => y = h x ∧ j2 = j) xNo)) (hd : P ((L.filter p).map h) j) : WC wm γ t f (L.map c) j P := by
  refine wC_inv (fun k acc j' => acc = ((L.take k).filter p).map h ∧ j' = j) ⟨rfl, rfl⟩ (fun k d acc j' e ⟨e1, e2⟩ => ?_) fun ys j' ⟨e1, e2⟩ => ?_
  · rw [List.getElem?_map, Option.map_eq_some_iff] at e
    obtain ⟨x, hx, rfl⟩ := e
    subst e1 e2
    obtain ⟨m1, e3, q, r⟩ := hs x (List.mem_of_getElem? hx)
    refine ⟨m1, e3, MoT.mo q (fun b j1 ⟨e4, e5⟩ => ?_) fun _ _ _ z => z⟩
    subst e4 e5
    rw [List.take_add_one, hx]
    cases hp : p x with
    | true =>
      refine MoE.mo (r hp) (fun y j2 ⟨e6, e7⟩ => ?_) fun _ _ _ z => z
      subst e6 e7
      exact ⟨by simp [hp], rfl⟩
    | false => exact ⟨by simp [hp], rfl⟩
  · rw [List.length_map, List.take_length] at e1
    rw [e1, e2]; exact hd
theorem nrng {k : Nat} : rngD 0 k = (List.range k).map fun i => D.int ((i : Nat) : Int) := by unfold rngD; simp
theorem wC_rng [MoE f] {k : Nat} (h : Nat → D) (hs : ∀ i, i < k → ∃ m1, γ (.int ((i : Nat) : Int)) wm = some m1 ∧ f m1 j (fun y j2 => y = h i ∧ j2 = j) xNo) (hd : P ((List.range k).map h) j) : WC wm γ tYesD f (rngD 0 k) j P := by
  rw [nrng]
  exact wC_map h (fun x hx => hs x (List.mem_range.mp hx)) hd
theorem wC_rngF [MoT t] [MoE f] {k : Nat} (p : Nat → Bool) (h : Nat → D) (hs : ∀ i, i < k → ∃ m1, γ (.int ((i : Nat) : Int)) wm = some m1 ∧ t m1 j (fun b j1 => b = p i ∧ j1 = j) xNo ∧ (p i = true → f m1 j (fun y j2 => y = h i ∧ j2 = j) xNo)) (hd : P (((List.range k).filter p).map h) j) : WC wm γ t f (rngD 0 k) j P := by
  rw [nrng]
  exact wC_filter p h (fun x hx => hs x (List.mem_range.mp hx)) hd
theorem wH_aux [ht : MoT t] [hs : MoS s] {Pv : Nat → Sd → J → Prop} (hw : ∀ k m j, Pv k m j → t m j (fun b j1 => if b = true then s m j1 (turnS (fun m2 j2 => ∃ k', k' < k ∧ Pv k' m2 j2) PS) E else PS .next m j1) E) : ∀ (n k : Nat) (m : Sd) (j : J), k < n → Pv k m j → whW t s n m j PS E
  | 0, k, m, j, h, _ => absurd h (Nat.not_lt_zero _)
  | n + 1, k, m, j, h, p => ht.mo (hw k m j p) (fun b j1 q => ite_mono q (fun q => hs.mo q (turnS_mo (fun m2 j2 ⟨k', l, p'⟩ => wH_aux hw n k' m2 j2 (by omega) p') fun _ _ _ z => z) fun _ _ _ z => z) fun q => q) fun _ _ _ z => z
/-- a while by its invariant and a number that falls -/
theorem wH_inv [MoT t] [MoS s] (Pv : Nat → Sd → J → Prop) (n : Nat) (h0 : Pv n m j) (hw : ∀ k m j, Pv k m j → t m j (fun b j1 => if b = true then s m j1 (turnS (fun m2 j2 => ∃ k', k' < k ∧ Pv k' m2 j2) PS) E else PS .next m j1) E) : WH t s m j PS E := ⟨n + 1, wH_aux hw (n + 1) n m j (Nat.lt_succ_self _) h0⟩
/-- what holds between two statements -/
theorem wSeq [h1 : MoS s] {s2 : Sv J} (R : Fl → Sd → J → Prop) (h : s m j R E) (q : ∀ l m' j', R l m' j' → thenS s2 PS E l m' j') : sSeq s s2 m j PS E := h1.mo h q fun _ _ _ z => z
end
@[simp] theorem exS {α : Type} {a : α} {P : α → Prop} : (∃ z, some a = some z ∧ P z) ↔ P a := by
  constructor
  · rintro ⟨z, e, p⟩; cases e; exact p
  · intro p; exact ⟨a, rfl, p⟩
@[simp] theorem gN_i {i : Nat} {d : D} {m : Sd} : gNm i d m = some (m.set i (some d)) := rfl
@[simp] theorem gT_i {γ : Gvs} {ds : List D} {m : Sd} : gTp γ (.tup ds) m = γ ds m := rfl
@[simp] theorem gC_i {γ : Gv} {γs : Gvs} {d : D} {ds : List D} {m : Sd} : gsCons γ γs (d :: ds) m = (match γ d m with | some m1 => γs ds m1 | none => none) := rfl
@[simp] theorem g0_i {m : Sd} : gsNil [] m = some m := rfl
@[simp] theorem wp_0 {m : Sd} : wipeD m [] = m := rfl
@[simp] theorem wp_1 {m : Sd} {v : Nat} {vs : List Nat} : wipeD m (v :: vs) = (wipeD m vs).set v none := rfl
@[simp] theorem add_i {a b : Int} : addD (.int a) (.int b) = some (.int (a + b)) := rfl
@[simp] theorem sub_i {a b : Int} : subD (.int a) (.int b) = some (.int (a - b)) := rfl
theorem mul_i {a b : Int} (ha : sm a = true) (hb : sm b = true) : mulD (.int a) (.int b) = some (.int (a * b)) := by unfold mulD; simp [ha, hb]
theorem div_i {a b : Int} (h0 : 0 < b) (hb : sm b = true) : fdivD (.int a) (.int b) = some (.int (a / b)) := by unfold fdivD; simp [h0, hb]
theorem mod_i {a b : Int} (h0 : 0 < b) : modD (.int a) (.int b) = some (.int (a % b)) := by unfold modD; simp [h0]
theorem pow_i {a b : Int} (h1 : 0 ≤ b) (h2 : b ≤ 1000) (h3 : -(2 ^ 62) < a) (h4 : a < 2 ^ 62) : powD (.int a) (.int b) = some (.int (a ^ b.toNat)) := by unfold powD; simp only [h1, h2, h3, h4, decide_true, Bool.and_self, if_true]
@[simp] theorem neg_i {a : Int} : negD (.int a) = some (.int (-a)) := rfl
@[simp] theorem lt_i {a b : Int} : ltD (.int a) (.int b) = some (.bl (decide (a < b))) := rfl
@[simp] theorem le_i {a b : Int} : leD (.int a) (.int b) = some (.bl (decide (a ≤ b))) := rfl
@[simp] theorem gt_i {a b : Int} : gtD (.int a) (.int b) = some (.bl (decide (b < a))) := rfl
@[simp] theorem ge_i {a b : Int} : geD (.int a) (.int b) = some (.bl (decide (b ≤ a))) := rfl
@[simp] theorem eq_i {a b : Int} : eqD (.int a) (.int b) = some (.bl (decide (a = b))) := rfl
@[simp] theorem ne_i {a b : Int} : neD (.int a) (.int b) = some (.bl (!decide (a = b))) := rfl
@[simp] theorem eq_s {a b : Str} : eqD (.str a) (.str b) = some (.bl (decide (a = b))) := rfl
@[simp] theorem ne_s {a b : Str} : neD (.str a) (.str b) = some (.bl (!decide (a = b))) := rfl
@[simp] theorem eq_b {a b : Bool} : eqD (.bl a) (.bl b) = some (.bl (decide (a = b))) := rfl
@[simp] theorem ne_b {a b : Bool} : neD (.bl a) (.bl b) = some (.bl (!decide (a = b))) := rfl
@[simp] theorem len_l {xs : List D} : lenB [.lst xs] = some (.int xs.length) := rfl
@[simp] theorem len_t {xs : List D} : lenB [.tup xs] = some (.int xs.length) := rfl
@[simp] theorem tup_l {xs : List D} : tupleB [.lst xs] = some (.tup xs) := rfl
@[simp] theorem tup_t {xs : List D} : tupleB [.tup xs] = some (.tup xs) := rfl
@[simp] theorem lst_l {xs : List D} : listB [.lst xs] = some (.lst xs) := rfl
@[simp] theorem lst_t {xs : List D} : listB [.tup xs] = some (.lst xs) := rfl
@[simp] theorem rev_t {xs : List D} : revD (.tup xs) = some (.tup xs.reverse) := rfl
@[simp] theorem rev_l {xs : List D} : revD (.lst xs) = some (.lst xs.reverse) := rfl
@[simp] theorem rev_L {xs : List D} : revL (.lst xs) = some (.lst xs.reverse) := rfl
@[simp] theorem max_i {a b : Int} : maxB [.int a, .int b] = some (.int (if b > a then b else a)) := rfl
@[simp] theorem min_i {a b : Int} : minB [.int a, .int b] = some (.int (if b < a then b else a)) := rfl
theorem atI_nat {α : Type} {xs : List α} {i : Nat} {x : α} (h : xs[i]? = some x) : atI xs ((i : Nat) : Int) = some x := by
  obtain ⟨hl, _⟩ := List.getElem?_eq_some_iff.mp h
  unfold atI ixN
  rw [if_pos (Int.natCast_nonneg _), if_pos (by omega), Option.bind_some, Int.toNat_natCast, h]
theorem idx_t {xs : List D} {i : Nat} {x : D} (h : xs[i]? = some x) : idxD (.tup xs) (.int ((i : Nat) : Int)) = some x := atI_nat h
theorem idx_l {xs : List D} {i : Nat} {x : D} (h : xs[i]? = some x) : idxD (.lst xs) (.int ((i : Nat) : Int)) = some x := atI_nat h
theorem sm_of {i : Int} (h1 : -(10 ^ 59) ≤ i) (h2 : i ≤ 10 ^ 59) : sm i = true := sm_iff.mpr ⟨by omega, by omega⟩
@[simp] theorem seq_l {xs : List D} : seqL (.lst xs) = some xs := rfl
@[simp] theorem seq_t {xs : List D} : seqL (.tup xs) = some xs := rfl
@[simp] theorem isq_l {xs : List D} : isSq (.lst xs) = True := rfl
@[simp] theorem isq_t {xs : List D} : isSq (.tup xs) = True := rfl
@[simp] theorem zip_l {xs ys : List D} : zipO (.lst xs) (.lst ys) = some (zipD xs ys) := rfl
@[simp] theorem zip_t {xs ys : List D} : zipO (.tup xs) (.tup ys) = some (zipD xs ys) := rfl
@[simp] theorem addI_i {a b : Int} : addI (.int a) (.int b) = some (.int (a + b)) := rfl
@[simp] theorem subI_i {a b : Int} : subI (.int a) (.int b) = some (.int (a - b)) := rfl
/-! repr -/
mutual
/-- plain data of small ints -/
def shw : D → Bool
  | .non => true
  | .bl _ => true
  | .int i => sm i
  | .tup xs => shwL xs
  | .lst xs => shwL xs
  | _ => false
def shwL : List D → Bool
  | [] => true
  | x :: xs => shw x && shwL xs
end
mutual
/-- more than the length of its repr -/
def szD : D → Nat
  | .tup xs => szL xs + 4
  | .lst xs => szL xs + 4
  | _ => 70
def szL : List D → Nat
  | [] => 0
  | x :: xs => szD x + 2 + szL xs
end
mutual
def dpD : D → Nat
  | .tup xs => dpL xs + 1
  | .lst xs => dpL xs + 1
  | _ => 0
def dpL : List D → Nat
  | [] => 0
  | x :: xs => max (dpD x) (dpL xs)
end
theorem int_len {i : Int} (h : sm i = true) : (PyData.shown (.int i)).length ≤ 70 := by
  have h := sm_iff.mp h
  have e := int_text_length_le10 (a := i) (k := 60) (by decide) (by omega)
  show (Str.ofString (toString i)).length ≤ 70
  rw [PySem.ofString_length]
  exact Nat.le_trans e (by decide)
mutual
theorem py_ok : ∀ (d : D), shw d = true → ∃ p, py d = some p ∧ p.showable = true ∧ p.depth = dpD d ∧ p.shown.length ≤ szD d
  | .non, _ => ⟨_, rfl, rfl, rfl, by decide⟩
  | .bl b, _ => ⟨_, rfl, rfl, rfl, by cases b <;> decide⟩
  | .int i, h => ⟨_, rfl, by
      have h' : sm i = true := h
      show decide _ = true
      rw [decide_eq_true_eq]
      exact Nat.lt_of_lt_of_le (sm_log h') (by decide), rfl, int_len h⟩
  | .tup xs, h => by
    obtain ⟨ps, h1, h2, h3, h4, h5⟩ := pyL_ok xs h
    refine ⟨.tuple ps, by unfold py; rw [h1], h2, by show PyData.depthAll ps + 1 = _; rw [h3]; rfl, ?_⟩
    have := tupleText_len_le (PyData.shownAll ps)
    show (tupleText (PyData.shownAll ps)).length ≤ szL xs + 4
    omega
  | .lst xs, h => by
    obtain ⟨ps, h1, h2, h3, h4, h5⟩ := pyL_ok xs h
    refine ⟨.list ps, by unfold py; rw [h1], h2, by show PyData.depthAll ps + 1 = _; rw [h3]; rfl, ?_⟩
    have := listText_len_le (PyData.shownAll ps)
    show (listText (PyData.shownAll ps)).length ≤ szL xs + 4
    omega
  | .str _, h => by cases h
  | .dct _, h => by cases h
  | .jar, h => by cases h
  | .obj _, h => by cases h
  | .ins _ _, h => by cases h
theorem pyL_ok : ∀ (ds : List D), shwL ds = true → ∃ ps, pyL ds = some ps ∧ PyData.showableAll ps = true ∧ PyData.depthAll ps = dpL ds ∧ (PyData.shownAll ps).length = ds.length ∧ ((PyData.shownAll ps).map (·.length)).sum + 2 * (PyData.shownAll ps).length ≤ szL ds
  | [], _ => ⟨[], rfl, rfl, rfl, rfl, by decide⟩
  | d :: ds, h => by
    unfold shwL at h
    rw [Bool.and_eq_true] at h
    obtain ⟨p, a1, a2, a3, a4⟩ := py_ok d h.1
    obtain ⟨ps, h1, h2, h3, h4, h5⟩ := pyL_ok ds h.2
    refine ⟨p :: ps, by unfold pyL; rw [a1, h1], by unfold PyData.showableAll; rw [a2, h2]; rfl, by unfold PyData.depthAll dpL; rw [a3, h3], by unfold PyData.shownAll; simp [h4], ?_⟩
    unfold PyData.shownAll szL
    simp only [List.map_cons, List.sum_cons, List.length_cons]
    omega
end
theorem repr_ok {d : D} (h : shw d = true) (hd : dpD d ≤ 60) (hs : szD d ≤ 1000000) : ∃ x, reprD d = some x := by
  obtain ⟨p, h1, h2, h3, h4⟩ := py_ok d h
  refine ⟨p.shown, ?_⟩
  unfold reprD
  rw [h1]
  have e1 : p.depth ≤ 60 := by omega
  have e2 : p.shown.length ≤ LINE := by have : LINE = 1000000 := rfl; omega
  simp only [h2, e1, e2, decide_true, Bool.and_self, if_true]
theorem reprB_ok {d : D} {P : D → Prop} (h : shw d = true) (hd : dpD d ≤ 60) (hs : szD d ≤ 1000000) (q : ∀ x, reprD d = some x → P (.str x)) : ∃ z, reprB [d] = some z ∧ P z := by
  obtain ⟨x, e⟩ := repr_ok h hd hs
  exact ⟨.str x, by show (match reprD d with | some x => some (D.str x) | none => none) = _; rw [e], q x e⟩
end Mp

/-! NR: more rules: xs[-2::-1] of an owned list. -/
namespace Mp
open PySem PySem.Spec L2
open PyProof.Rows hiding St
variable {J : Type}
theorem rev2_bounds (n : Nat) : sliceBounds (some (-2)) none (some (-1)) n = (((n - 1 : Nat) : Int) - 1, -1, -1) := by
  have e : sliceBounds (some (-2)) none (some (-1)) n = (max (-1) (min ((-2 : Int) + n) ((n : Int) - 1)), -1, -1) := by
    unfold sliceBounds
    simp
  rw [e]
  congr 1
  omega
theorem rev2_pick (items : Array Value) : slicePick items (some (-2)) none (some (-1)) = items.toList.dropLast.reverse.toArray := by
  unfold slicePick
  rw [rev2_bounds]
  show ((sliceRange (((items.size - 1 : Nat) : Int) - 1) (-1) (-1)).filterMap (items[·]?)).toArray = _
  rw [PySem.W.krv_sliceRange, PySem.W.krv_range, List.filterMap_reverse]
  congr 2
  rw [List.dropLast_eq_take, Array.length_toList]
  have h := pick_run items 0 (items.size - 1)
  have e : (List.range (items.size - 1)).map (0 + ·) = List.range (items.size - 1) := by
    rw [show ((0 + ·) : Nat → Nat) = id from funext fun k => Nat.zero_add k, List.map_id]
  rw [e, List.drop_zero] at h
  exact h
section
variable {S : Js J} {B : Bs} {M : Nat → Bool} {W : WX} {X : Cx} {e a b : Expr} {pos : Pos} {fa : Ev J} {x : Str}
def tRev2 (K : PySem.W.Frag) (te : TE) : TE := fun σ H Q => te σ H fun x H1 => ∃ a xs, x = .ref a ∧ SqL K H1 a xs ∧ ∀ p, H1 p = none → Q (.ref p) (upd H1 p (.lst xs.dropLast.reverse))
theorem pe_rev2 {te : TE} {k k2 : Nat} {p1 p2 p3 p4 p5 : Pos} (he : PE X e te) : PE X (.Subscript e (.Slice (some (.UnaryOp .USub (.Constant (.int 2) k2 p4) p5)) none (some (.UnaryOp .USub (.Constant (.int 1) k p1) p2)) p3) pos) (tRev2 X.K te) := by
  refine ⟨fun pins s σ H Q I h => ?_⟩
  refine Subscript_ (thn (he.run pins s σ H _ I h) fun v s1 ⟨x, H1, I1, r1, q1⟩ => ?_)
  have hst : PO X (some (.UnaryOp .USub (.Constant (.int 1) k p1) p2)) (tPart (tUn (rU fun i => .int (-i)) (tC (.int 1)))) := po_some (pe_un un_neg pe_int)
  have hlo : PO X (some (.UnaryOp .USub (.Constant (.int 2) k2 p4) p5)) (tPart (tUn (rU fun i => .int (-i)) (tC (.int 2)))) := po_some (pe_un un_neg pe_int)
  refine wpAny_Slice (thn (hlo.run pins s1 σ H1 (fun o H2 => o = some (-2) ∧ H2 = H1) I1 ⟨2, rfl, -2, rfl, rfl, rfl⟩) fun vl s2 ⟨l, H2, I2, pl, el, e2⟩ => ?_)
  subst el e2
  refine thn (po_none.run pins s2 σ H2 (fun o H3 => o = none ∧ H3 = H2) I2 ⟨rfl, rfl⟩) fun vu s3 ⟨u, H3, I3, pu, eu, e3⟩ => ?_
  subst eu e3
  refine thn (hst.run pins s3 σ H3 (fun o H4 => o = some (-1) ∧ H4 = H3) I3 ⟨1, rfl, -1, rfl, rfl, rfl⟩) fun vs s4 ⟨o, H4, I4, ps, eo, e4⟩ => ?_
  subst eo e4
  have I5 : Inv X pins σ H4 { s4 with heap := s4.heap.push { cls := .type "slice", data := .fields #[vl, vu, vs] } } := I4.kept (t' := s4.toks) fun b ob q => Heap.get?_push_of_some _ q
  obtain ⟨a, xs, ex, hx, q⟩ := q1
  subst ex
  cases r1
  obtain ⟨its, r, ht, hz⟩ := I5.list hx
  have hlen := r.length
  show wpAny (model X.prog X.w) X.A (subscriptTail e (.Slice (some (.UnaryOp .USub (.Constant (.int 2) k2 p4) p5)) none (some (.UnaryOp .USub (.Constant (.int 1) k p1) p2)) p3) (.ref a) (.ref s4.heap.objs.size)) (EP X pins σ Q) X.xe { s4 with heap := s4.heap.push { cls := .type "slice", data := .fields #[vl, vu, vs] } }
  refine tail_any (ops := [.ref a, .ref s4.heap.objs.size]) ht.isList.typeIs (PySem.slot_list_getitem.lookup) ?_ (by with_unfolding_all rfl)
  refine wpAny_getItem_list_slice ht.isList (Heap.IsSliceOf.new _ vl vu vs) pl pu ps (by decide) ?_ (by rw [List.size_toArray]; omega)
  rw [rev2_pick]
  have rr : Vals xs.dropLast its.dropLast := by
    rw [List.dropLast_eq_take, List.dropLast_eq_take, hlen]
    exact r.take _
  refine ⟨.ref _, _, I5.laid (t' := s4.toks) (o := .lst xs.dropLast.reverse) (fun b ob q => Heap.get?_push_of_some _ q) (Nat.le_refl _) ?_, rfl, q _ (I5.hok.fresh (Nat.le_refl _))⟩
  exact ⟨by rw [List.length_reverse, List.length_dropLast]; omega, _, 0, rr.reverse, Heap.get?_push_size _ rfl⟩
def rev2L : D → Option D
  | .lst xs => some (.lst xs.dropLast.reverse)
  | _ => none
/-- xs[-2::-1] of an owned list: a new list -/
theorem rv2O {i : Nat} {np : Pos} {k k2 : Nat} {p1 p2 p3 p4 p5 : Pos} (hx : MtN X i x := by exact mtN _) (hM : M i = true := by rfl) :
    PE X (.Subscript (.Name x np) (.Slice (some (.UnaryOp .USub (.Constant (.int 2) k2 p4) p5)) none (some (.UnaryOp .USub (.Constant (.int 1) k p1) p2)) p3) pos) (rdE S B M W .fresh (eUn rev2L (eVar i))) :=
  PE.imp (pe_rev2 hx.pe) fun R H Q ⟨g, m, j, P, E, ok, ⟨d0, h0, z, hz, pz⟩, q, xo⟩ => by
    obtain ⟨a, hr, ho⟩ := ok.s.ow i _ h0 hM
    obtain ⟨hF, ⟨ds, vs, rfl, e, t⟩ | ⟨kds, kvs, rfl, _⟩ | ⟨kds, kvs, rfl, _⟩⟩ := ho
    · cases hz
      refine ⟨_, hr, a, vs, rfl, .of (ok.b.gh _ _ e), fun p hp => ?_⟩
      obtain ⟨n1, n2, n3, n4⟩ := ok.b.hn hp
      exact q _ _ (g.see p (.lst vs.dropLast.reverse)) _ _ pz (Le.see n2) ⟨ok.b.see _ hp, ok.s.le (Le.see n2)⟩ ⟨p, rfl, n2, n1, .inl ⟨_, _, rfl, upd_same, t.dropLast.reverse⟩⟩
    · cases hz
    · cases hz
end
@[simp] theorem rev2_l {xs : List D} : rev2L (.lst xs) = some (.lst xs.dropLast.reverse) := rfl
end Mp

/-! NS: defs with a star parameter. -/
namespace Mp
open PySem PySem.Spec L2
open PyProof.Rows hiding St
variable {J : Type}
/-- an exception that is told from a state with a new tuple is told from the state ahead of it -/
def CXNw (CX : CXT) : Prop := ∀ (outer : List Env) (s : Shared) (H : Hp) (h2 : Heap) (p : Addr) (rest : HO) (E : XK) (e : Value) (s' : Shared), (∀ b o, s.heap.get? b = some o → h2.get? b = some o) → s.heap.objs.size ≤ p → H p = none →
  CX outer (upd H p rest) { s with heap := h2 } E e s' → CX outer H s E e s'
theorem cxNew {P : Program} {w : World} : CXNw (L2.CX P w) := fun outer s H h2 p rest E e s' kp hp hn h => by
  obtain ⟨a, B, H', cls, d, rfl, fl, hok, ub, na, os, ag, hE⟩ := h
  have ne : ∀ b o, s.heap.get? b = some o → b ≠ p := fun b o e z => by
    have h1 : b < s.heap.objs.size := Heap.lt_size e
    exact absurd h1 (by rw [z]; exact Nat.not_lt.mpr hp)
  have nh : ∀ b o, H b = some o → b ≠ p := fun b o e z => by rw [z, hn] at e; cases e
  refine ⟨a, B, H', cls, d, rfl, fl, hok, ⟨fun b o e1 e2 e3 => ub.keep b o (kp b o e1) (by rw [upd_ne (ne b o e1)]; exact e2) e3, fun b o e1 e2 => ub.slot b o (kp b o e1) e2, fun b o e1 e2 => ub.free b o (kp b o e1) (by rw [upd_ne (ne b o e1)]; exact e2),
    fun b o e1 e2 => ub.there b o (kp b o e1) e2, fun b xs e1 => ub.tups b xs (by rw [upd_ne (nh b _ e1)]; exact e1), fun b o xs e1 => ub.frzs b o xs (by rw [upd_ne (nh b _ e1)]; exact e1), fun b ps e1 => ub.tbls b ps (by rw [upd_ne (nh b _ e1)]; exact e1)⟩, na, os, ag, hE⟩
/-- a call's promise, the arguments by position -/
def FnV (P : Program) (w : World) (K : PySem.W.Frag) (mg : Str → Option Value) (base : Heap) (CX : CXT) (k : Nat) (f : Addr) (sp : Sp) : Prop :=
  ∀ (A : Around) (outer : List Env) (s : Shared) (H : Hp) (us : List Value) (vs : List V) (Q : VK) (E : XK), Room k A → A.guards = some [] → Env0 P w K mg base A outer s H → Vals vs us → sp vs H Q E → codeAny (model P w) A (.call (.ref f) ⟨us, []⟩) (CR CX outer P w H s Q E) s
theorem vals_split : ∀ {v1 v2 : List V} {us : List Value}, Vals (v1 ++ v2) us → ∃ u1 u2, us = u1 ++ u2 ∧ Vals v1 u1 ∧ Vals v2 u2
  | [], v2, us, h => ⟨[], us, rfl, .nil, h⟩
  | v :: v1, v2, us, h => by
    cases h with
    | cons a b =>
      obtain ⟨u1, u2, rfl, r1, r2⟩ := vals_split b
      exact ⟨_ :: u1, u2, rfl, .cons a r1, r2⟩
/-- a def f(a, .., *r), by its body -/
theorem fnV_of {CX : CXT} {P : Program} {w : World} {K : PySem.W.Frag} {mg : Str → Option Value} {base : Heap} {k : Nat} {f : Addr} {name qual : Str} {params : Arguments} {body : List Stmt} {scope : Scope} {dV kV doc pm cdv ct oc : Value} {an od : Option Addr}
    {osl : Array (Option Value)} {N pas : List Str} {pv : Str} {n nmax : Nat} {sp : Sp} (lk : K.lookup f = some ⟨oc, od, .func (PySem.W.fnOf name qual params body scope dV kV doc pm an cdv ct), osl⟩) (hcd : PySem.W.codeIn K cdv qual = true) (S : FnScope N (pas ++ [pv]) scope) (hn0 : pas.length = n)
    (hz : nmax ≤ sizeLine) (hb : ∀ (us rest : List Value), us.length = n → rest.length ≤ nmax → bindArgs (PySem.W.fnOf name qual params body scope dV kV doc pm an cdv ct) ⟨us ++ rest, []⟩ = (newTuple rest >>= fun t => pure ((pas ++ [pv]).zip (us ++ [t]))))
    (hCX : CXNw CX)
    (hbody : ∀ (A : Around) (outer : List Env) (s : Shared) (H : Hp) (vs : List V) (Q : VK) (E : XK), Room k (A.deeper (envOfC qual scope s.heap.objs.size f cdv)) → (A.deeper (envOfC qual scope s.heap.objs.size f cdv)).guards = some [] → sp vs H Q E →
      ∃ t, PSs (cxOf CX P w K mg base N qual scope f cdv A outer s H E) body t ∧ t { nx := fun _ H' => Q .non H', rt := Q } (start N vs) H) :
    FnV P w K mg base CX (k + 1) f (fun vs H Q E => ∃ v1 rest, vs = v1 ++ rest ∧ v1.length = n ∧ rest.length ≤ nmax ∧ ∀ (p : Addr) (ob : Obj), H p = none → ob.dict = none → sp (v1 ++ [.ref p]) (upd H p (.frz ob (.tup rest))) Q E) := by
  intro A outer s H us vs Q E hr hgd e0 r hsp
  obtain ⟨v1, rest, ev, hl1, hl, hq⟩ := hsp
  subst ev
  obtain ⟨u, ur, rfl, rv, rr⟩ := vals_split r
  have hu1 : u.length = n := by rw [← rv.length]; exact hl1
  have hl' : ur.length ≤ nmax := by rw [← rr.length]; exact hl
  have KX : K.In s.heap := e0.mod.kin.keeps fun b o e => (e0.bs b o e).1
  have hn : H s.heap.objs.size = none := e0.hok.fresh (Nat.le_refl _)
  have hp := hq s.heap.objs.size ({ cls := .type "tuple", data := .seq ur.toArray } : Obj) hn rfl
  have kp : ∀ b o, s.heap.get? b = some o → (s.heap.push ({ cls := .type "tuple", data := .seq ur.toArray } : Obj)).get? b = some o := fun b o e => Heap.get?_push_of_some _ e
  have new : ObjOk P w (upd H s.heap.objs.size (.frz ({ cls := .type "tuple", data := .seq ur.toArray } : Obj) (.tup rest))) (s.heap.push ({ cls := .type "tuple", data := .seq ur.toArray } : Obj)) s.heap.objs.size (.frz ({ cls := .type "tuple", data := .seq ur.toArray } : Obj) (.tup rest)) :=
    ⟨Heap.get?_push_size _ rfl, Nat.le_trans hl hz, ur, rr, ⟨_, Heap.get?_push_size _ rfl, rfl, _, rfl⟩⟩
  have hok2 := e0.hok.laid kp (Nat.le_refl _) new
  have un : Un (frs outer) [] H (upd H s.heap.objs.size (.frz ({ cls := .type "tuple", data := .seq ur.toArray } : Obj) (.tup rest))) s.heap (s.heap.push ({ cls := .type "tuple", data := .seq ur.toArray } : Obj)) := Un.laid kp (Nat.le_refl _) hn
  have e2 : Env0 P w K mg base A outer { s with heap := s.heap.push ({ cls := .type "tuple", data := .seq ur.toArray } : Obj) } (upd H s.heap.objs.size (.frz ({ cls := .type "tuple", data := .seq ur.toArray } : Obj) (.tup rest))) := by
    refine ⟨e0.frames, e0.mod, fun b o e => ⟨kp b o (e0.bs b o e).1, ?_⟩, ?_, Heap.FunFrames.of_keeps (fun b o e _ => ⟨o, kp b o e, rfl⟩) e0.funs, fun b hb' => ?_, hok2, e0.bare⟩
    · rw [upd_ne (Nat.ne_of_lt (Heap.lt_size (e0.bs b o e).1))]
      exact (e0.bs b o e).2
    · show base.objs.size ≤ (s.heap.push _).objs.size
      rw [Heap.size_push]
      exact Nat.le_succ_of_le e0.bsz
    · obtain ⟨_, o, ho, _⟩ := e0.funs.mem hb'
      rw [upd_ne (Nat.ne_of_lt (Heap.lt_size ho))]
      exact e0.frf b hb'
  have lim : (s.heap.push ({ cls := .type "tuple", data := .seq ur.toArray } : Obj)).NoLimit := e0.mod.nolimit.keeps fun b o e => (e2.bs b o e).1
  have hkind : ∀ y ∈ (pas ++ [pv]).zip (u ++ [Value.ref s.heap.objs.size]), scope.names.lookup y.1 = some .local ∨
      (scope.names.lookup y.1 = some .cell ∧ ((cellsFrom ((s.heap.push ({ cls := .type "tuple", data := .seq ur.toArray } : Obj)).objs.size + 1) scope.names []).lookup y.1).isSome = true) := fun y hy => by
    rcases S.par y.1 (List.of_mem_zip hy).1 with q | q
    · exact .inl q
    · exact .inr ⟨q, PySem.W.cellsFrom_some _ _ _ (.inl q)⟩
  refine codeAny_call_function hr.depth (KX _ _ lk) rfl S.co S.gen rfl (PySem.W.codeRec_of KX hcd) ?_
  rw [hb u ur hu1 hl']
  refine wpAny_bind (wpAny_newTuple (wpAny_pure ?_) (Nat.le_trans hl' hz))
  refine wpAny_newFunctionEnv_cells (s := { s with heap := s.heap.push ({ cls := .type "tuple", data := .seq ur.toArray } : Obj) }) S.kind hkind fun env he s1 x => ?_
  subst he
  refine ⟨lim.keeps x.toInCall.keep, codeAny_func ?_⟩
  obtain ⟨t, ht, hq'⟩ := hbody A outer { s with heap := s.heap.push ({ cls := .type "tuple", data := .seq ur.toArray } : Obj) } (upd H s.heap.objs.size (.frz ({ cls := .type "tuple", data := .seq ur.toArray } : Obj) (.tup rest))) (v1 ++ [.ref s.heap.objs.size]) Q E (hr.deeper _) hgd hp
  have r2 : Vals (v1 ++ [V.ref s.heap.objs.size]) (u ++ [Value.ref s.heap.objs.size]) := rv.append (.cons rfl .nil)
  have I : Inv (cxOf CX P w K mg base N qual scope f cdv A outer { s with heap := s.heap.push ({ cls := .type "tuple", data := .seq ur.toArray } : Obj) } (upd H s.heap.objs.size (.frz ({ cls := .type "tuple", data := .seq ur.toArray } : Obj) (.tup rest))) E) [] (start N (v1 ++ [.ref s.heap.objs.size])) (upd H s.heap.objs.size (.frz ({ cls := .type "tuple", data := .seq ur.toArray } : Obj) (.tup rest))) s1 :=
    inv_start S hr.hd e2 (by simp [hl1, hn0]) r2 x
  refine wpAny_mono (ht.run [] s1 _ _ _ I hq') (fun fl s' hs => ?_) fun e s' hs => ?_
  · have fin : ∀ {σ' : St} {H' : Hp} {v' : V} {u' : Value}, Inv (cxOf CX P w K mg base N qual scope f cdv A outer { s with heap := s.heap.push ({ cls := .type "tuple", data := .seq ur.toArray } : Obj) } (upd H s.heap.objs.size (.frz ({ cls := .type "tuple", data := .seq ur.toArray } : Obj) (.tup rest))) E) [] σ' H' s' → RelV v' u' → Q v' H' →
        CE outer P w H s Q u' s' := fun {σ' H' v' u'} J rv' q => ⟨v', H', J.os, J.bare, un.trans J.base, J.hok, rv', q⟩
    cases fl with
    | ret u' =>
      obtain ⟨v', σ', H', J, rv', q⟩ := hs
      exact fin J rv' q
    | next =>
      obtain ⟨σ', H', J, q⟩ := hs
      exact fin (v' := V.non) (u' := Value.none) J rfl q
    | brk =>
      obtain ⟨_, _, _, q⟩ := hs
      exact False.elim q
    | cont =>
      obtain ⟨_, _, _, q⟩ := hs
      exact False.elim q
  · exact wpAny_mono hs (fun _ s'' z => hCX outer s H _ _ _ E e s'' kp (Nat.le_refl _) hn z) fun e' s'' z => hCX outer s H _ _ _ E e' s'' kp (Nat.le_refl _) hn z
/-! on data -/
def spV (S : Js J) (φ : Fv J) : Sp := fun vs H Q E => ∃ F A j ds P Ep, Same F H ∧ (∀ b o, F b = some o → ¬ A b) ∧ S.rep j F A H ∧ (∃ o u, H sysModules = some (.frz o u)) ∧ RpL S F ds vs ∧ φ ds j P Ep ∧
  (∀ d j' F' A' H' v, P d j' → FPost S F A H F' A' H' j' → Rp S F' d v → Q v H') ∧ (∀ e j' F' A' H' cls dx, Ep e j' → FPost S F A H F' A' H' j' → ExR S F' e cls dx → E cls dx H')
/-- n parameters, then at most x more -/
def runV (k n x : Nat) (f : Sv J) (ds : List D) (j : J) (P : D → J → Prop) (E : Ex → J → Prop) : Prop := n ≤ ds.length ∧ ds.length ≤ n + x ∧ runF k (n + 1) f (ds.take n ++ [.tup (ds.drop n)]) j P E
instance {k n x : Nat} {f : Sv J} [h : MoS f] : MoF (runV k n x f) := ⟨fun ⟨l, l2, p⟩ q y => ⟨l, l2, MoF.mo p q y⟩⟩
theorem RpL.app {S : Js J} {F : Hp} : ∀ {ds es : List D} {vs us : List V}, RpL S F ds vs → RpL S F es us → RpL S F (ds ++ es) (vs ++ us)
  | _, _, _, _, .nil, h => h
  | _, _, _, _, .cons a t, h => .cons a (RpL.app t h)
section
variable {P : Program} {w : World} {K : PySem.W.Frag} {mg : Str → Option Value} {base : Heap} {S : Js J}
theorem fnV_D {x qual : Str} {st : Stmt} {f : Addr} {fd : FuncData} {N pas : List Str} {pv : Str} {n nmax k : Nat} {M : Nat → Bool} {fs : Sv J} (F : L2.Fun K x qual st f fd) (Sc : FnScope N (pas ++ [pv]) (defScope st)) (hn : pas.length = n) (hM : ∀ i, i < n + 1 → M i = false) (hz : nmax ≤ sizeLine)
    (hb : ∀ (us rest : List Value), us.length = n → rest.length ≤ nmax → bindArgs fd ⟨us ++ rest, []⟩ = (newTuple rest >>= fun t => pure ((pas ++ [pv]).zip (us ++ [t]))))
    (hbody : ∀ (cdv : Value) (A : Around) (outer : List Env) (s : Shared) (H : Hp) (E : XK) (B : Bs), Room k (A.deeper (envOfC qual (defScope st) s.heap.objs.size f cdv)) → (A.deeper (envOfC qual (defScope st) s.heap.objs.size f cdv)).guards = some [] →
      PSs (cxE P w K mg base N qual (defScope st) f cdv A outer s H E) (defBody st) (rdS S B M (WD E) fs)) : FnV P w K mg base (L2.CX P w) (k + 1) f (spV S (runV N.length n nmax fs)) := by
  obtain ⟨oc, od, kV, doc, pm, an, cdv, ct, osl, rfl, lk, hcd⟩ := F.ex
  have G := fnV_of (sp := spF S (n + 1) (runF N.length (n + 1) fs)) (k := k) (CX := L2.CX P w) (P := P) (w := w) (mg := mg) (base := base) lk hcd Sc hn hz hb cxNew fun A outer s H vs Q E hr hgd h => by
    obtain ⟨F0, A0, j, ds, P, Ep, fh, fa, jr, sm, rp, hl, hf, q, xx⟩ := h
    exact ⟨_, hbody cdv A outer s H E ⟨F0, H, A0⟩ hr hgd, run_end fh fa jr sm hM rp hf q xx⟩
  refine fun A outer s H us vs Q E hr hgd e0 r h => G A outer s H us vs Q E hr hgd e0 r ?_
  obtain ⟨F0, A0, j, ds, P, Ep, fh, fa, jr, ⟨o, u, sm⟩, rp, ⟨l1, l2, hf⟩, q, xx⟩ := h
  have hlen := rp.length
  refine ⟨vs.take n, vs.drop n, (List.take_append_drop _ _).symm, by rw [List.length_take]; omega, by rw [List.length_drop]; omega, fun p ob hp hob => ?_⟩
  have keep : ∀ b o, H b = some o → upd H p (.frz ob (.tup (vs.drop n))) b = some o := fun b o e => by
    rw [upd_ne fun z => by rw [z, hp] at e; cases e]; exact e
  have keepF : ∀ b o, F0 b = some o → upd F0 p (.frz ob (.tup (vs.drop n))) b = some o := fun b o e => by
    rw [upd_ne fun z => by rw [z] at e; rw [fh p o e] at hp; cases hp]; exact e
  have back : ∀ b, upd H p (.frz ob (.tup (vs.drop n))) b = none → H b = none := fun b e => by
    by_cases z : b = p
    · rw [z]; exact hp
    · rwa [upd_ne z] at e
  have post : ∀ {F' A' H' j'}, FPost S (upd F0 p (.frz ob (.tup (vs.drop n)))) A0 (upd H p (.frz ob (.tup (vs.drop n)))) F' A' H' j' → FPost S F0 A0 H F' A' H' j' := fun {F' A' H' j'} pp =>
    ⟨fun b o e => pp.sub b o (keepF b o e), pp.fh, pp.fa, pp.jr, fun b o e => pp.keep b o (keep b o e), fun b o e => by
      rcases pp.ff b o e with z | z
      · by_cases c : b = p
        · exact .inr (by rw [c]; exact hp)
        · rw [upd_ne c] at z; exact .inl z
      · exact .inr (back b z), fun b e => by
      rcases pp.af b e with z | z
      · exact .inl z
      · exact .inr (back b z), fun b e => back b (pp.dm b e), pp.sm⟩
  refine ⟨upd F0 p (.frz ob (.tup (vs.drop n))), A0, j, ds.take n ++ [.tup (ds.drop n)], P, Ep, fun b o e => ?_, fun b o e z => ?_, S.frame jr keepF fun b hb => ?_, ⟨o, u, keep _ _ sm⟩, ?_, hf.1, hf, fun d j' F' A' H' v h1 h2 h3 => q d j' F' A' H' v h1 (post h2) h3, fun e j' F' A' H' cls dx h1 h2 h3 => xx e j' F' A' H' cls dx h1 (post h2) h3⟩
  · by_cases c : b = p
    · rw [c, upd_same] at e ⊢; exact e
    · rw [upd_ne c] at e ⊢; exact fh b o e
  · by_cases c : b = p
    · rw [c] at z; exact S.dom jr z hp
    · rw [upd_ne c] at e; exact fa b o e z
  · exact upd_ne fun z => S.dom jr hb (by rw [z]; exact hp)
  · exact RpL.app (RpL.take n (RpL.mono keepF rp)) (.cons (.tup (.inl ⟨ob, upd_same, hob⟩) (RpL.drop n (RpL.mono keepF rp))) .nil)
/-- a star def that may be called -/
structure CalV (S : Js J) (P : Program) (w : World) (mg : Str → Option Value) (base : Heap) (k : Nat) (x : Str) (φ : Fv J) : Prop where
  ex : ∃ fn, FnV P w S.K mg base (L2.CX P w) k fn (spV S φ) ∧ mg x = some (.ref fn) ∧ PySem.W.keepIn S.K (.ref fn) = true
end
section
variable {S : Js J} {B : Bs} {M : Nat → Bool} {W : WX} {X : Cx} {e : Expr} {es : List Expr} {pos p : Pos} {fr : Av J} {x : Str} {φ : Fv J} {k : Nat} {fn : Addr}
theorem run_fnVS {sp : Sp} {E : St → XK} {CX : CXT} {pins : List (Addr × Obj)} {σ : St} {H : Hp} {s : Shared} {Q : VK} {us : List Value} {vs : List V} (F : FnV X.prog X.w X.K X.mg X.base CX k fn sp) (hr : Room k X.A) (hgd : X.A.guards = some []) (hx : PassesAt CX X σ (E σ))
    (I : Inv X pins σ H s) (r : Vals vs us) (h : sp vs H Q (E σ)) : wpAny (model X.prog X.w) X.A (call (.ref fn) us) (EP X pins σ Q) X.xe s := by
  refine wpAny_call (codeAny_mono (F X.A X.stack s H us vs Q (E σ) hr hgd I.env0 r h) fun r s' hq => ?_)
  cases r with
  | error e => exact hx pins H s e s' I hq
  | ok fl =>
    cases fl with
    | ret u => exact I.after hq
    | next => exact False.elim hq
    | brk => exact False.elim hq
    | cont => exact False.elim hq
theorem tCallV_rd {R : St} {H : Hp} {Q : VK} (h : rdE S B M W .clean (eCall φ fr) R H Q) : tCallS (spV S φ) (WE W) (rdA S B M W true fr) R H Q := by
  obtain ⟨g, m, j, P, E, ok, hf, q, xo⟩ := h
  refine ⟨g, m, j, _, E, ok, hf, fun xs j1 g1 vs H1 p1 l1 ok1 w1 => ?_, xo⟩
  refine ⟨g1.F, g1.A, j1, xs, P, _, ok1.b.fg.trans ok1.b.gh, fun b o e => ok1.b.ga b o (ok1.b.fg b o e), ok1.b.jr, ok1.b.sm, w1, p1, fun d j' F' A' H' v pd pp rv => ?_, fun e j' F' A' H' cls dx pe pp rv => ?_⟩
  · obtain ⟨l2, ok2⟩ := post_clean ok1.b pp
    exact q d j' _ v H' pd (l1.trans l2) ⟨ok2, ok1.s.le l2⟩ rv
  · obtain ⟨l2, ok2⟩ := post_clean ok1.b pp
    exact xo e m j' _ R H' cls dx pe (l1.trans l2).f ⟨ok2, ok1.s.le l2⟩ rv
theorem callV (hK : X.K = S.K) (tk : Takes X W) (C : CalV S X.prog X.w X.mg X.base k x φ) (hr : Room k X.A) (hgd : X.A.guards = some []) (ha : PA X (e :: es) (rdA S B M W true fr)) (hg : Gl X x := by rfl) (hdb : (x == ("__debug__" : Str)) = false := by decide)
    (he : starEach (e :: es) X.env = (false, eval e X.env) :: starEach es X.env := by rfl) (hpl : (backTo pos (starEach es X.env)).any (·.1) = false := by rfl) : PE X (.Call (.Name x p) (e :: es) [] pos) (rdE S B M W .clean (eCall φ fr)) := by
  obtain ⟨fn, F, h1, h2⟩ := C.ex
  refine PE.imp (t := tCallS (spV S φ) (WE W) (rdA S B M W true fr)) ⟨fun pins s σ H Q I h => ?_⟩ fun _ _ _ h => tCallV_rd h
  refine wpAny_Call_Name_kw (ld_glob I hg h1 ?_ hdb)
  refine PySem.W.callWith_K (h₀ := X.base) I.ok.mod.kin (hK ▸ h2) (thn (ha.run pos pins s σ H _ I h) fun us s1 ⟨vs, H1, I1, r, q⟩ => ⟨I1.kIn, ?_⟩) he hpl
  exact run_fnVS (hK ▸ F) hr hgd (passAt tk σ) I1 r q
theorem callV0 (hK : X.K = S.K) (tk : Takes X W) (C : CalV S X.prog X.w X.mg X.base k x φ) (hr : Room k X.A) (hgd : X.A.guards = some []) (hg : Gl X x := by rfl) (hdb : (x == ("__debug__" : Str)) = false := by decide) : PE X (.Call (.Name x p) [] [] pos) (rdE S B M W .clean (eCall φ aNil)) := by
  obtain ⟨fn, F, h1, h2⟩ := C.ex
  refine PE.imp (t := tCallS (spV S φ) (WE W) tNil) ⟨fun pins s σ H Q I h => ?_⟩ fun R H Q h => by
    have h2 := tCallV_rd h
    obtain ⟨g, m, j, P, E, ok, hf, q, xo⟩ := h2
    exact q _ _ g [] H hf (Le.refl g) ok .nil
  refine wpAny_Call_Name_kw (ld_glob I hg h1 ?_ hdb)
  exact PySem.W.callWith_K0 I.kIn (hK ▸ h2) (run_fnVS (us := []) (hK ▸ F) hr hgd (passAt tk σ) I .nil h)
end
/-! ### starred items -/
def seqT : D → Option (List D)
  | .lst xs => some xs
  | .tup xs => some xs
  | _ => none
def aStar (fa : Ev J) (fr : Av J) (m : Sd) (j : J) (P : List D → J → Prop) (E : XP J) : Prop := fa m j (fun x j1 => ∃ xs, seqT x = some xs ∧ fr m j1 (fun ys j2 => P (xs ++ ys) j2) E) E
instance {fa : Ev J} {fr : Av J} [ha : MoE fa] [hb : MoA fr] : MoA (aStar fa fr) := ⟨fun h q x => ha.mo h (fun _ _ ⟨xs, e, h1⟩ => ⟨xs, e, hb.mo h1 (fun _ _ p => q _ _ p) x⟩) x⟩
section
variable {S : Js J} {B : Bs} {M : Nat → Bool} {W : WX} {X : Cx} {e : Expr} {es : List Expr} {p : Pos} {fa : Ev J} {fr : Av J}
theorem a_star {k : Bool} (hK : X.K = S.K) (ha : PE X e (rdE S B M W (ofB k) fa)) (hr : PA X es (rdA S B M W k fr)) (hs : starEach (.Starred e p :: es) X.env = (true, eval e X.env) :: starEach es X.env := by rfl) : PA X (.Starred e p :: es) (rdA S B M W k (aStar fa fr)) :=
  PA.imp (StX.pa_star ha hr hs) fun r H Q ⟨g, m, j, P, E, ok, hf, q, xo⟩ => by
    refine ⟨g, m, j, _, E, ok, hf, ?_, xo⟩
    rintro x j1 g1 v1 H1 ⟨xs, ex, p1⟩ l1 ok1 w1
    have w2 := rp_hp w1
    have hh : Same (hp k g1) H1 := by
      cases k
      · exact ok1.b.gh
      · exact ok1.b.fg.trans ok1.b.gh
    cases x with
    | lst ys =>
      cases ex
      obtain ⟨a, vs, rfl, h1, h2⟩ := lst_of w2
      exact ⟨a, vs, rfl, .inr (.of (hh a _ h1)), ⟨g1, m, _, _, E, ok1, p1, fun zs j2 g2 us H2 p2 l2 ok2 w3 => q _ _ g2 _ H2 p2 (l1.trans l2) ok2 (RpL.app (h2.mono (hp_le l2 k)) w3), xo.le l1.f⟩⟩
    | tup ys =>
      cases ex
      obtain ⟨a, vs, rfl, h1, h2⟩ := tup_of w2
      exact ⟨a, vs, rfl, .inl (hK ▸ sqT_same hh h1.t), ⟨g1, m, _, _, E, ok1, p1, fun zs j2 g2 us H2 p2 l2 ok2 w3 => q _ _ g2 _ H2 p2 (l1.trans l2) ok2 (RpL.app (h2.mono (hp_le l2 k)) w3), xo.le l1.f⟩⟩
    | _ => cases ex
end
/-! ### a, b = a list -/
def gLs (γs : Gvs) : Gv := fun d m => match d with
  | .lst ds => γs ds m
  | _ => none
section
variable {S : Js J} {B : Bs} {M : Nat → Bool} {X : Cx} {es : List Expr} {pos : Pos}
theorem gL {w : Bool} {kt n : Nat} {ks : List Nat} {γs : Gvs} (hK : X.K = S.K) (hl : ∀ ds m m', γs ds m = some m' → ds.length = n) (h : PGs X es (rdGs S B M ks γs)) (hc : X.calm = true := by rfl) (hn : (assignEach es X.env).length = n := by rfl) (hst : (assignEach es X.env).findIdx? (·.1) = none := by rfl) :
    PG X (.Tuple es kt pos) (rdG S B M w ks (gLs γs)) := PG.imp (pg_unl hc h hn hst) fun v r H Q ⟨g, m, j, d, m', ok, rp, e, q⟩ => by
  cases d with
  | lst ds =>
    rcases rp with rp | ⟨_, T, vs, es, rfl, hT, he, ra⟩
    · obtain ⟨a, vs, rfl, ha, ra⟩ := lst_of rp
      exact ⟨a, vs, rfl, .of ((ok.b.fg.trans ok.b.gh) _ _ ha), by rw [← ra.length]; exact hl _ _ _ e, g, m, j, _, _, ok, ra, e, q⟩
    · cases he
  | _ => cases e
end
end Mp

/-! NT: sorted(set(..)), len(set(..)) of ints. -/
namespace Mp
open PySem PySem.Spec L2
open PyProof.Rows hiding St
section
variable {P : Program} {w : World} {A : Around} {E : Value → Shared → Prop} {s : Shared}
set_option maxRecDepth 100000 in
set_option maxHeartbeats 3200000 in
theorem call_set_lstI {l : Addr} {items : Array Value} (ns : List Int) {Q : Value → Shared → Prop} (hh : A.handled = none) (hl : s.heap.IsList l items) (hit : IntsAre items.toList ns) (hb : ns.length + 1 < scanBound)
    (h : ∀ (h' : Heap) (tk c : Nat), SetR w h' s.heap.objs.size (fun j => decide (j ∈ ns)) c → c ≤ ns.length → (∀ b o, s.heap.get? b = some o → h'.get? b = some o) → Q (.ref s.heap.objs.size) { s with heap := h', toks := tk }) :
    wpAny (model P w) A (call (.type "set") [.ref l]) Q E s := by
  have hisz : items.size = ns.length := by
    have q := IntsAre.length hit
    rw [Array.length_toList] at q
    exact q
  obtain ⟨c, tl, hmro⟩ := F.called_set.mro
  have hmade := F.called_set.made
  have hsub := F.called_set.sub
  refine wpAny_call (codeAny_of_tree ?_)
  show wpAny _ _ (callAny (.type "set") _) _ _ _
  refine wpAny_pure ⟨Code.quiet_builtin _ (by decide +kernel), codeAny_builtin F.entry_type_call ?_⟩
  rw [Around.under_plain (weight_type_call_type "set" [.ref l] []) rfl]
  have h1 := F.called_set.notType
  have h2 := F.called_set.canCreate
  have hct := F.typeCall_set_1 (.ref l)
  repeat (any_goals (first | assumption | wp_step))

  refine codeAny_mono (code_set_led1 (.ref l) (E := E) (Q₁ := fun obj s₁ => obj = .ref s.heap.objs.size ∧ s₁ = { s with heap := s.heap.push { cls := .type "set", dict := none, data := .set #[] 0 (.fresh 0 0 (!w.params.followText "set-order")) } }) ⟨rfl, rfl⟩) fun r s₁ hr => ?_
  cases r with
  | error e => exact hr
  | ok fl =>
    cases fl with
    | ret obj =>
      obtain ⟨rfl, rfl⟩ := hr
      have hS : (s.heap.push { cls := .type "set", dict := none, data := .set #[] 0 (.fresh 0 0 (!w.params.followText "set-order")) }).get? s.heap.objs.size = some { cls := .type "set", dict := none, data := .set #[] 0 (.fresh 0 0 (!w.params.followText "set-order")) } := Heap.get?_push_size _ rfl
      have hT : Shared.TypeIs { s with heap := s.heap.push { cls := .type "set", dict := none, data := .set #[] 0 (.fresh 0 0 (!w.params.followText "set-order")) } } (.ref s.heap.objs.size) "set" := ⟨_, hS, rfl⟩
      have hli := F.called_set.init.lookup
      have hbi := F.called_set.init.bind (.ref s.heap.objs.size)
      repeat (any_goals (first | assumption | wp_step))

      refine codeAny_mono (codeAny_call_builtin (R := wants (fun r s₂ => r = .none ∧ ∃ h' tk c, s₂ = { s with heap := h', toks := tk } ∧ SetR w h' s.heap.objs.size (fun j => decide (j ∈ ns)) c ∧ c ≤ ns.length ∧
          (∀ b o, s.heap.get? b = some o → h'.get? b = some o)) E) F.called_set.init.plain F.entry_set_init (check_set_init_1 hT ?_)) fun r₂ s₂ hr₂ => ?_
      · obtain ⟨ol, hol, hcl, nl, hdl⟩ := hl
        obtain ⟨ocls, odict, odata, oslots⟩ := ol
        simp only at hcl hdl
        subst hcl; subst hdl
        have hol' : (s.heap.push { cls := .type "set", dict := none, data := .set #[] 0 (.fresh 0 0 (!w.params.followText "set-order")) }).get? l = some { cls := .type "list", dict := odict, data := .seq items nl, slots := oslots } := Heap.get?_push_of_some _ hol
        have hsls := F.sub_list_set
        have hslf := F.sub_list_frozenset
        have hne : (Value.type "list" == Value.type "dict") = false := by decide
        have hl1 : (s.heap.push { cls := .type "set", dict := none, data := .set #[] 0 (.fresh 0 0 (!w.params.followText "set-order")) }).IsList l items := ⟨_, hol', rfl, nl, rfl⟩
        unfold Builtin.«set.__init__» noKeywords Builtin.Frozenset.updateFrom
        generalize hPI : pyIter = PI
        wp_walk
        subst hPI

        refine wpAny_pyIter_list hl1 ?_
        refine wpAny_bind (wpAny_runValue ?_)
        have hlS : l < s.heap.objs.size := Heap.lt_size hol
        have hh3 : A.in1.in1.in1.handled = none := by simp [hh]
        have hz1 : (s.heap.push { cls := .type "set", dict := none, data := .set #[] 0 (.fresh 0 0 (!w.params.followText "set-order")) }).objs.size = s.heap.objs.size + 1 := Heap.size_push ..
        have hneI : l ≠ (s.heap.push { cls := .type "set", dict := none, data := .set #[] 0 (.fresh 0 0 (!w.params.followText "set-order")) }).objs.size := by
          rw [Heap.size_push]; exact Nat.ne_of_lt (Nat.lt_succ_of_lt hlS)
        have hSf : s.heap.objs.size ∉ [(s.heap.push { cls := .type "set", dict := none, data := .set #[] 0 (.fresh 0 0 (!w.params.followText "set-order")) }).objs.size, l] := by
          rw [Heap.size_push]; simp only [List.mem_cons, List.mem_singleton, List.not_mem_nil, or_false, not_or]
          exact ⟨Nat.ne_of_lt (Nat.lt_succ_self _), Nat.ne_of_gt hlS⟩
        have hval : ∀ (i : Nat) (v : Value), items[i]? = some v → ∃ k t, ns[i]? = some k ∧ v = .int k t := fun i v hv => by
          have hi : i < ns.length := by rw [← hisz]; exact (Array.getElem?_eq_some_iff.mp hv).1
          obtain ⟨t, e⟩ := PyProof.Rows.IntsAre.int_at hit i v (by rw [Array.getElem?_toList]; exact hv)
          refine ⟨ns[i], t, List.getElem?_eq_getElem hi, ?_⟩
          rw [e, List.getD_eq_getElem?_getD, List.getElem?_eq_getElem hi] <;> rfl
        refine set_update_ints ((Walks.list hh3 _ l hneI items).toS) s.heap.objs.size
          hSf ns hisz hb hval (items.size - 0) 0 _ (by omega) (Nat.zero_le _)
          ⟨⟨_, Heap.get?_push_size _ rfl, rfl, rfl⟩, (hl1.push _)⟩ ?hS0 ?hR
        case hS0 =>
          have hget : ((s.heap.push { cls := .type "set", dict := none, data := .set #[] 0 (.fresh 0 0 (!w.params.followText "set-order")) }).push { cls := .type "list_iterator", data := .fields #[.ref l, .int 0 0] }).get? s.heap.objs.size
              = some { cls := .type "set", dict := none, data := .set #[] 0 (.fresh 0 0 (!w.params.followText "set-order")) } := Heap.get?_push_of_some _ hS
          exact ⟨0, Nat.le_refl 0, setR_new_at hget⟩
        case hR =>
          intro s' c' hm hc' hS'
          obtain ⟨h', g2, d', tk', os'⟩ := s'
          have eg : g2 = s.gens := hm.gens
          have ed : d' = s.drawn := hm.drawn
          have eo : os' = s.os := hm.os
          subst eg; subst ed; subst eo
          show wpAny _ _ _ _ _ _
          refine wpAny_pure ?_
          show wpAny _ _ (ret Value.none) _ _ _
          rw [hisz] at hc'
          refine wpAny_pure ⟨rfl, h', tk', c', rfl, hS', hc', fun b o e => ?_⟩
          have hb0 : b < s.heap.objs.size := Heap.lt_size e
          have hb1 : b ≠ s.heap.objs.size := Nat.ne_of_lt hb0
          have hb2 : b ≠ (s.heap.push { cls := .type "set", dict := none, data := .set #[] 0 (.fresh 0 0 (!w.params.followText "set-order")) }).objs.size := by
            rw [Heap.size_push]; exact Nat.ne_of_lt (Nat.lt_succ_of_lt hb0)
          exact hm.heap b o (by simp only [List.mem_cons, List.mem_singleton, List.not_mem_nil, or_false, not_or]; exact ⟨hb1, hb2⟩) (Heap.get?_push_of_some _ (Heap.get?_push_of_some _ e))

      · cases r₂ with
        | error e => exact hr₂
        | ok fl₂ =>
          cases fl₂ with
          | ret r =>
            obtain ⟨rfl, h', tk, c', rfl, hS', hc', hk'⟩ := hr₂
            repeat (any_goals (first | assumption | wp_step))
            exact h _ _ _ hS' hc' hk'
          | _ => exact hr₂.elim
    | _ => exact hr.elim

end
end Mp

/-! NU: sorted(set(..)), len(set(..)) of ints, on data. -/
namespace Mp
open PySem PySem.Spec L2
open PyProof.Rows hiding St
variable {J : Type}
section
open PySem.Spec PyProof.Rows
variable {P : Program} {w : World} {A : Around} {E : Value → Shared → Prop} {s : Shared} {a : Addr}
/-- sorted(a set of ints), any number of them -/
theorem sorted_setA {S : Int → Bool} {n : Nat} {Q : Value → Shared → Prop} (R : SetR w s.heap a S n) (hh : A.handled = none) (h64 : n < 100000)
    (hQ : ∀ s' p (out : Array Value) (c : Nat) (ns : List Int), (∀ b o, s.heap.get? b = some o → s'.heap.get? b = some o) → s'.gens = s.gens → s'.os = s.os → s.heap.objs.size ≤ p →
      s'.heap.get? p = some (seqObj "list" out c) → IntsAre out.toList ns → ns.Pairwise (· < ·) → (∀ k, k ∈ ns ↔ S k = true) → ns.length = n → Q (.ref p) s') :
    wpAny (model P w) A (call (.builtin "sorted") [.ref a]) Q E s := by
  obtain ⟨o, es, ep, t, ho, hex, hd, g, nd, hm, hb, hf, hn, hr, hl⟩ := R
  refine Calls.call_function_entry kind_sorted plain_sorted entry_sorted (args_sorted1 _) ?_
  unfold Builtin.«sorted»
  refine wpAny_bind (m := checkCount "sorted" 1 1 _) (wpAny_pure ?_)
  refine wpAny_bind (collect_set (A := A.in1) hh ⟨o, ho, hex.1, hd⟩ hf hb hr hl fun s1 vs k1 hz g1 o1 pm => ?_)
  have hvl : vs.length = n := by rw [pm.length_eq, List.length_map, Array.length_toList]; exact hn
  have hI : IntsAre vs (vs.map Builtin.Re.reRawOf) := ints_of vs fun v hv => by
    obtain ⟨e, he, q⟩ := List.mem_map.mp (pm.mem_iff.mp hv)
    obtain ⟨k, tk, h1, _⟩ := g e he
    exact ⟨k, tk, by rw [← q]; exact h1⟩
  have pk : (vs.map Builtin.Re.reRawOf).Perm (es.toList.map keyOf) := by
    have q := pm.map Builtin.Re.reRawOf
    rw [List.map_map] at q
    exact q
  refine wpAny_bind (wpAny_newList ?_ (by rw [hvl, sizeLine_eq]; omega))
  have hoL : (s1.heap.push (seqObj "list" vs.toArray 0)).get? s1.heap.objs.size = some (seqObj "list" vs.toArray 0) := Heap.get?_push_size _ rfl
  refine wpAny_bind (wpAny_holding (wpAny_call_entry slot_list_sort ⟨_, hoL, rfl⟩ entry_list_sort (list_sort_treeAny hoL hI (by rw [hvl, sizeLine_eq]; omega) fun out ns' a1 a2 a3 => ⟨_, rfl, ?_⟩) (args_list_sort _)))
  obtain ⟨c, hc⟩ := sortedHeap_at (vs := vs) (out := out) hoL
  have pn : ns'.Perm (es.toList.map keyOf) := a2.trans pk
  refine wpAny_pure ⟨_, rfl, hQ _ s1.heap.objs.size out c ns' (fun b u e => ?_) g1 o1 hz hc a1 (lt_of_le_nodup ns' a3 (pn.nodup_iff.mpr nd)) (fun k => by rw [pn.mem_iff, ← hm k]) ?_⟩
  · have q := k1 b u e
    have hlt := Heap.lt_size q
    show (sortedHeap (s1.heap.push (seqObj "list" vs.toArray 0)) s1.heap.objs.size vs out).get? b = some u
    rw [sortedHeap_old (Nat.ne_of_lt hlt) (by rw [size_push']; exact Nat.lt_succ_of_lt hlt)]
    exact Heap.get?_push_of_some _ q
  · rw [pn.length_eq, List.length_map, Array.length_toList]; exact hn
end
/-- the members, ascending -/
def ssort (ns : List Int) : List Int := isort ns.eraseDups
theorem ssort_mem {ns : List Int} {k : Int} : k ∈ ssort ns ↔ k ∈ ns := by
  unfold ssort
  rw [(isort_perm _).mem_iff, List.mem_eraseDups]
theorem lt_uniq : ∀ {a b : List Int}, a.Pairwise (· < ·) → b.Pairwise (· < ·) → (∀ k, k ∈ a ↔ k ∈ b) → a = b
  | [], [], _, _, _ => rfl
  | [], y :: b, _, _, h => absurd ((h y).mpr List.mem_cons_self) (by simp)
  | x :: a, [], _, _, h => absurd ((h x).mp List.mem_cons_self) (by simp)
  | x :: a, y :: b, h1, h2, h => by
    have a1 := List.pairwise_cons.mp h1
    have b1 := List.pairwise_cons.mp h2
    have e : x = y := by
      rcases List.mem_cons.mp ((h x).mp List.mem_cons_self) with e | hx
      · exact e
      · rcases List.mem_cons.mp ((h y).mpr List.mem_cons_self) with e | hy
        · exact e.symm
        · have := a1.1 y hy
          have := b1.1 x hx
          omega
    subst e
    rw [lt_uniq a1.2 b1.2 fun k => ?_]
    constructor
    · intro hk
      rcases List.mem_cons.mp ((h k).mp (List.mem_cons_of_mem _ hk)) with e | hk'
      · have := a1.1 k hk; omega
      · exact hk'
    · intro hk
      rcases List.mem_cons.mp ((h k).mpr (List.mem_cons_of_mem _ hk)) with e | hk'
      · have := b1.1 k hk; omega
      · exact hk'
theorem nodup_eraseDups : ∀ (n : Nat) (ns : List Int), ns.length ≤ n → ns.eraseDups.Nodup
  | _, [], _ => by simp
  | 0, _ :: _, h => by simp at h
  | n + 1, a :: r, h => by
    rw [List.eraseDups_cons]
    refine List.nodup_cons.mpr ⟨fun z => ?_, nodup_eraseDups n _ ?_⟩
    · rw [List.mem_eraseDups] at z
      simp at z
    · have := List.length_filter_le (fun b => !b == a) r
      simp at h
      omega
theorem ssort_up (ns : List Int) : (ssort ns).Pairwise (· < ·) := by
  have h1 := isort_sorted ns.eraseDups
  have h2 : (isort ns.eraseDups).Nodup := (isort_perm _).nodup_iff.mpr (nodup_eraseDups _ ns (Nat.le_refl _))
  exact List.Pairwise.imp₂ (fun {a b} h g => by
    have : a ≠ b := g
    have : a ≤ b := h
    omega) h1 h2
theorem ssort_of {ns ms : List Int} (h1 : ms.Pairwise (· < ·)) (h2 : ∀ k, k ∈ ms ↔ k ∈ ns) : ssort ns = ms := lt_uniq (ssort_up ns) h1 fun k => by rw [ssort_mem, h2]
theorem ssort_len (ns : List Int) : (ssort ns).length ≤ ns.length := by
  unfold ssort
  rw [(isort_perm _).length_eq]
  have : ∀ (n : Nat) (ns : List Int), ns.length ≤ n → ns.eraseDups.length ≤ ns.length := fun n => by
    induction n with
    | zero => intro ns h; cases ns with
      | nil => simp
      | cons a r => simp at h
    | succ n ih =>
      intro ns h
      cases ns with
      | nil => simp
      | cons a r =>
        rw [List.eraseDups_cons]
        have h1 := List.length_filter_le (fun b => !b == a) r
        have h2 := ih (r.filter fun b => !b == a) (by simp at h; omega)
        simp
        omega
  exact this _ ns (Nat.le_refl _)
def ssI (xs : List D) : Option D := match ints? xs with | some ns => if ns.length < 4000 then some (.lst ((ssort ns).map D.int)) else none | none => none
def slI (xs : List D) : Option D := match ints? xs with | some ns => if ns.length < 1000 then some (.int (ssort ns).length) else none | none => none
theorem ssI_some {xs : List D} {d : D} (h : ssI xs = some d) : ∃ ns, xs = ns.map D.int ∧ ns.length < 4000 ∧ d = .lst ((ssort ns).map D.int) := by
  unfold ssI at h
  cases hn : ints? xs with
  | none => rw [hn] at h; cases h
  | some ns =>
    rw [hn] at h
    have h : (if ns.length < 4000 then some (D.lst ((ssort ns).map D.int)) else none) = some d := h
    by_cases c : ns.length < 4000
    · rw [if_pos c] at h; exact ⟨ns, ints?_some hn, c, (Option.some.inj h).symm⟩
    · rw [if_neg c] at h; cases h
theorem slI_some {xs : List D} {d : D} (h : slI xs = some d) : ∃ ns, xs = ns.map D.int ∧ ns.length < 1000 ∧ d = .int (ssort ns).length := by
  unfold slI at h
  cases hn : ints? xs with
  | none => rw [hn] at h; cases h
  | some ns =>
    rw [hn] at h
    have h : (if ns.length < 1000 then some (D.int (ssort ns).length) else none) = some d := h
    by_cases c : ns.length < 1000
    · rw [if_pos c] at h; exact ⟨ns, ints?_some hn, c, (Option.some.inj h).symm⟩
    · rw [if_neg c] at h; cases h
theorem ssI_of {ns : List Int} (h : ns.length < 4000) : ssI (ns.map D.int) = some (.lst ((ssort ns).map D.int)) := by
  unfold ssI
  rw [ints?_map]
  exact if_pos h
theorem slI_of {ns : List Int} (h : ns.length < 1000) : slI (ns.map D.int) = some (.int (ssort ns).length) := by
  unfold slI
  rw [ints?_map]
  exact if_pos h
def sortSetD : D → Option D
  | .lst xs => ssI xs
  | .tup xs => ssI xs
  | _ => none
def lenSetD : D → Option D
  | .lst xs => slI xs
  | _ => none
def tSetOf (K : PySem.W.Frag) (ta : TE) (R : List Int → Hp → VK → Prop) : TE := fun σ H Q => ta σ H fun x H1 => ∃ (l : Addr) (ns : List Int), x = V.ref l ∧ (SqL K H1 l (ns.map V.int) ∨ SqT K H1 l (ns.map V.int)) ∧ ns.length < 4000 ∧ R ns H1 Q
def rSortSet : List Int → Hp → VK → Prop := fun ns H Q => ∀ p : Addr, H p = none → Q (.ref p) (upd H p (.lst ((ssort ns).map V.int)))
section
variable {X : Cx} {a : Expr} {ta : TE} {p p2 q pos : Pos}
theorem setR_of {pins : List (Addr × Obj)} {σ : L2.St} {H : Hp} {s : Shared} {l : Addr} {ns : List Int} {E : Value → Shared → Prop} {Q : Value → Shared → Prop} (hc : X.calm = true) (I : Inv X pins σ H s) (h : SqL X.K H l (ns.map V.int) ∨ SqT X.K H l (ns.map V.int)) (h64 : ns.length < 4000)
    (hQ : ∀ (h' : Heap) (tk c : Nat), SetR X.w h' s.heap.objs.size (fun j => decide (j ∈ ns)) c → c ≤ ns.length → (∀ b o, s.heap.get? b = some o → h'.get? b = some o) → Q (.ref s.heap.objs.size) { s with heap := h', toks := tk }) :
    wpAny (model X.prog X.w) X.A (call (.type "set") [.ref l]) Q E s := by
  rcases h with h | h
  · obtain ⟨its, r, pl, hz⟩ := I.list h
    exact call_set_lstI ns (I.ok.hd hc) pl.isList (by simpa using r.ints) (by unfold scanBound; omega) hQ
  · obtain ⟨its, rv, hT, _⟩ := I.tuple h
    exact call_set_tupI ns (I.ok.hd hc) hT (by simpa using rv.ints) (by unfold scanBound; omega) hQ
theorem pe_sortSet (hc : X.calm = true) (hg : Gl X "sorted") (hm : X.mg "sorted" = none) (hg2 : Gl X "set") (hm2 : X.mg "set" = none) (ha : PE X a ta)
    (na : starEach [a] X.env = (false, eval a X.env) :: starEach [] X.env := by rfl) : PE X (.Call (.Name "sorted" p) [.Call (.Name "set" p2) [a] [] q] [] pos) (tSetOf X.K ta rSortSet) := by
  refine ⟨fun pins s σ H Q I h => ?_⟩
  refine Call_ (ld_blt I hg hm boot_sorted ?_)
  refine PyProof.Rows.callWith_builtin1 (PyProof.Rows.args_cons ?_ rfl) rfl rfl
  refine Call_ (ld_blt I hg2 hm2 boot_set ?_)
  refine PyProof.Rows.callWith_type1 (PyProof.Rows.args_cons (thn (ha.run pins s σ H _ I h) fun v s1 ⟨x, H1, I1, r1, q1⟩ => PyProof.Rows.args_nil ?_) na) na rfl
  obtain ⟨l, ns, rfl, hq, h1, q1⟩ := q1
  cases r1
  refine setR_of hc I1 hq h1 fun h' tk c R hcl hk => ?_
  refine PyProof.Rows.args_nil ?_
  have I2 : Inv X pins σ H1 { s1 with heap := h', toks := tk } := I1.kept hk
  refine sorted_setA R (I2.ok.hd hc) (by omega) fun s' p out c ns' k g o hp hg' hi hs hm' hl => ?_
  have e1 : ns' = ssort ns := (ssort_of hs fun k => by rw [hm' k, decide_eq_true_eq]).symm
  subst e1
  have hlen : ((ssort ns).map V.int).length ≤ sizeLine := by rw [List.length_map, sizeLine_eq]; have := ssort_len ns; omega
  have hn : H1 p = none := I2.hok.fresh hp
  have J : Inv X pins σ (upd H1 p (.lst ((ssort ns).map V.int))) { ({ s1 with heap := h', toks := tk } : Shared) with heap := s'.heap, gens := s'.gens, drawn := s'.drawn, toks := s'.toks } :=
    I2.call (ch := []) (Un.laid k hp hn) (I2.hok.laid k hp ⟨hlen, out.toList, c, vals_of_ints hi, hg'⟩) (by rw [g]; exact I2.bare) (fun _ z => nomatch z)
  have e : s' = { s1 with heap := s'.heap, gens := s'.gens, drawn := s'.drawn, toks := s'.toks } := by
    cases s'
    cases s1
    cases o
    rfl
  rw [e]
  exact ⟨.ref p, _, J, rfl, q1 p hn⟩
def tLenSet (K : PySem.W.Frag) (ta : TE) : TE := fun σ H Q => ta σ H fun x H1 => ∃ (l : Addr) (ns : List Int), x = V.ref l ∧ SqL K H1 l (ns.map V.int) ∧ ns.length < 1000 ∧ Q (.int (ssort ns).length) H1
theorem met_nodup (val : Nat → Int) : ∀ i, (firstMet val i).Nodup
  | 0 => by simp [firstMet]
  | i + 1 => by
    rw [firstMet_succ]
    unfold step_dedup
    split
    · exact met_nodup val i
    · rename_i h
      refine List.nodup_append.mpr ⟨met_nodup val i, by simp, fun x hx y hy => ?_⟩
      rw [List.mem_singleton.mp hy]
      intro z
      exact h (List.any_eq_true.mpr ⟨x, hx, by simp [z]⟩)
theorem met_len (ns : List Int) : (firstMet (fun i => ns.getD i 0) ns.length).length = (ssort ns).length := by
  have e : (List.range ns.length).map (fun i => ns.getD i 0) = ns := by
    apply List.ext_getElem
    · simp
    · intro i h1 h2
      simp at h1 ⊢
      rw [List.getElem?_eq_getElem h2]; rfl
  refine List.Perm.length_eq ((List.perm_ext_iff_of_nodup (met_nodup _ _) ?_).mpr fun k => ?_)
  · exact (ssort_up ns).imp fun {a b} h => by omega
  · rw [ssort_mem]
    have h := firstMet_any (fun i => ns.getD i 0) ns.length k
    rw [e] at h
    constructor
    · intro hk
      have h1 : (firstMet (fun i => ns.getD i 0) ns.length).any (· == k) = true := List.any_eq_true.mpr ⟨k, hk, by simp⟩
      rw [h] at h1
      obtain ⟨x, hx, e2⟩ := List.any_eq_true.mp h1
      rw [beq_iff_eq] at e2
      rw [← e2]; exact hx
    · intro hk
      have h1 : ns.any (· == k) = true := List.any_eq_true.mpr ⟨k, hk, by simp⟩
      rw [← h] at h1
      obtain ⟨x, hx, e2⟩ := List.any_eq_true.mp h1
      rw [beq_iff_eq] at e2
      rw [← e2]; exact hx
theorem pe_lenSet (hc : X.calm = true) (hg : Gl X "len") (hm : X.mg "len" = none) (hg2 : Gl X "set") (hm2 : X.mg "set" = none) (ha : PE X a ta)
    (na : starEach [a] X.env = (false, eval a X.env) :: starEach [] X.env := by rfl) : PE X (.Call (.Name "len" p) [.Call (.Name "set" p2) [a] [] q] [] pos) (tLenSet X.K ta) := by
  refine ⟨fun pins s σ H Q I h => ?_⟩
  refine Call_ (ld_blt I hg hm PySem.boot_len ?_)
  refine PyProof.Rows.callWith_builtin1 (PyProof.Rows.args_cons ?_ rfl) rfl rfl
  refine Call_ (ld_blt I hg2 hm2 boot_set ?_)
  refine PyProof.Rows.callWith_type1 (PyProof.Rows.args_cons (thn (ha.run pins s σ H _ I h) fun v s1 ⟨x, H1, I1, r1, q1⟩ => PyProof.Rows.args_nil ?_) na) na rfl
  obtain ⟨l, ns, rfl, hq, h1, q1⟩ := q1
  cases r1
  obtain ⟨its, r, pl, hz⟩ := I1.list hq
  have hl : its.toArray.size = ns.length := by rw [List.size_toArray, ← r.length, List.length_map]
  refine call_set_list (I1.ok.hd hc) pl.isList (ns := ns) (by simpa using r.ints) (by unfold scanBound; omega) fun h' tk hS hk => ?_
  rw [hl, met_len ns] at hS
  refine PyProof.Rows.args_nil ?_
  obtain ⟨o, es, ep, t, ho, hex, hd, _, _, _, hf, hn⟩ := hS
  have I2 : Inv X pins σ H1 { s1 with heap := h', toks := tk } := I1.kept fun b o e => hk b o (Heap.lt_size e) e
  have := ssort_len ns
  refine call_len_set ho hex hd hf (by rw [hn] <;> omega) ⟨.int (ssort ns).length, H1, I2.tok _, ⟨_, by rw [hn]⟩, q1⟩
end
section
variable {S : Js J} {B : Bs} {M : Nat → Bool} {W : WX} {X : Cx} {a : Expr} {fa : Ev J} {p p2 q pos : Pos}
theorem e_sortSet {k : Bool} (hK : X.K = S.K) (hm : X.mg "sorted" = none) (hm2 : X.mg "set" = none) (ha : PE X a (rdE S B M W (ofB k) fa)) (hc : X.calm = true := by rfl) (hg : Gl X "sorted" := by rfl) (hg2 : Gl X "set" := by rfl)
    (na : starEach [a] X.env = (false, eval a X.env) :: starEach [] X.env := by rfl) : PE X (.Call (.Name "sorted" p) [.Call (.Name "set" p2) [a] [] q] [] pos) (rdE S B M W .fresh (eUn sortSetD fa)) :=
  PE.imp (pe_sortSet hc hg hm hg2 hm2 ha na) fun R H Q ⟨g, m, j, P, E, ok, hf, q, xo⟩ => by
    refine ⟨g, m, j, _, E, ok, hf, ?_, xo⟩
    rintro x j1 g1 v1 H1 ⟨d, h3, pd⟩ l1 ok1 w1
    have w2 := rp_hp w1
    have hh : Same (hp k g1) H1 := by
      cases k
      · exact ok1.b.gh
      · exact ok1.b.fg.trans ok1.b.gh
    have fin : ∀ ns : List Int, ns.length < 4000 → d = .lst ((ssort ns).map D.int) → rSortSet ns H1 Q := fun ns h64 ed p np => by
      obtain ⟨n1, n2, n3, n4⟩ := ok1.b.hn np
      have l2 : Le g1 (g1.see p (.lst ((ssort ns).map V.int))) := Le.see n2
      subst ed
      exact q _ _ _ _ _ pd (l1.trans l2) ⟨ok1.b.see _ np, ok1.s.le l2⟩ ⟨p, rfl, l1.g.free n2, n1, .inl ⟨_, _, rfl, upd_same, RpL.ints _⟩⟩
    cases x with
    | lst ys =>
      obtain ⟨ns, rfl, h64, ed⟩ := ssI_some h3
      obtain ⟨l, vs, rfl, h1, h2⟩ := lst_of w2
      have hv := RpL.of_ints h2
      subst hv
      exact ⟨l, ns, rfl, .inl (.of (hh l _ h1)), h64, fin ns h64 ed⟩
    | tup ys =>
      obtain ⟨ns, rfl, h64, ed⟩ := ssI_some h3
      obtain ⟨l, vs, rfl, h1, h2⟩ := tup_of w2
      have hv := RpL.of_ints h2
      subst hv
      exact ⟨l, ns, rfl, .inr (hK ▸ sqT_same hh h1.t), h64, fin ns h64 ed⟩
    | _ => cases h3
theorem e_lenSet {k : Bool} (hm : X.mg "len" = none) (hm2 : X.mg "set" = none) (ha : PE X a (rdE S B M W (ofB k) fa)) (hc : X.calm = true := by rfl) (hg : Gl X "len" := by rfl) (hg2 : Gl X "set" := by rfl)
    (na : starEach [a] X.env = (false, eval a X.env) :: starEach [] X.env := by rfl) : PE X (.Call (.Name "len" p) [.Call (.Name "set" p2) [a] [] q] [] pos) (rdE S B M W .clean (eUn lenSetD fa)) :=
  PE.imp (pe_lenSet hc hg hm hg2 hm2 ha na) fun R H Q ⟨g, m, j, P, E, ok, hf, q, xo⟩ => by
    refine ⟨g, m, j, _, E, ok, hf, ?_, xo⟩
    rintro x j1 g1 v1 H1 ⟨d, h3, pd⟩ l1 ok1 w1
    have w2 := rp_hp w1
    have hh : Same (hp k g1) H1 := by
      cases k
      · exact ok1.b.gh
      · exact ok1.b.fg.trans ok1.b.gh
    cases x with
    | lst ys =>
      obtain ⟨ns, rfl, h64, ed⟩ := slI_some h3
      obtain ⟨l, vs, rfl, h1, h2⟩ := lst_of w2
      have hv := RpL.of_ints h2
      subst hv
      subst ed
      exact ⟨l, ns, rfl, .of (hh l _ h1), h64, q _ _ _ _ _ pd l1 ok1 (.int _)⟩
    | _ => cases h3
end
end Mp

/-! NX: raise C(e), C an own class with one field; try .. except C as x; in the suite isinstance(x, C), x.f; {}, {'a': 0}. -/
namespace Mp
open PySem PySem.Spec L2
open PyProof.Rows hiding St
variable {J : Type}
/-! ### raise -/
def sRaise (c : Nat) (fe : Ev J) (m : Sd) (j : J) (P : Fl → Sd → J → Prop) (E : XP J) : Prop := fe m j (fun d j1 => E ⟨c, some d⟩ m j1) E
instance {c : Nat} {fe : Ev J} [h1 : MoE fe] : MoS (sRaise c fe) := ⟨fun h q x => h1.mo h (fun _ _ p => x _ _ _ p) x⟩
/-- what an __init__ with one field does -/
def spIni (K : PySem.W.Frag) (f : Str) : Sp := fun vs H Q E => ∃ (a C : Addr) (y : V), vs = [.ref a, y] ∧ OexC K C ∧ PySem.W.findIn K (.ref C) f = some none ∧ H a = some (exo a C none) ∧
  ∀ dx, H dx = none → dx ≠ a → Q .non (upd (upd H dx (exd dx [(f, y)])) a (exo a C (some dx)))
/-- a class that is raised -/
structure XMk (S : Js J) (P : Program) (w : World) (mg : Str → Option Value) (base : Heap) (c : Nat) (x : Str) : Prop where
  ex : ∃ (fI : Addr) (fd : FuncData) (ps : List Str), FnOk P w S.K mg base CX0 1 fI fd ps (spIni S.K (S.xf c)) ∧ PySem.W.findIn S.K (.ref (S.xc c)) "__init__" = some (some (.ref fI)) ∧ PySem.W.typeIn S.K (.ref fI) = some (.type "function") ∧ Binds S.K fd ps []
  T : OexC S.K (S.xc c)
  no : PySem.W.findIn S.K (.ref (S.xc c)) (S.xf c) = some none
  gl : mg x = some (.ref (S.xc c))
theorem ini_ok {P : Program} {w : World} {K : PySem.W.Frag} {mg : Str → Option Value} {base : Heap} {x qual p1 p2 f : Str} {st : Stmt} {fI : Addr} {fd : FuncData} {q1 q2 q3 q4 : Pos} (F : L2.Fun K x qual st fI fd) (Sc : FnScope [p1, p2] [p1, p2] (defScope st))
    (hb : defBody st = [.Assign [.Attribute (.Name p1 q1) f q2] (.Name p2 q3) q4]) (h1 : Vis (defScope st) p1) (h2 : Vis (defScope st) p2) (d1 : (p1 == ("__debug__" : Str)) = false) (d2 : (p2 == ("__debug__" : Str)) = false) (e1 : (p1 == ("__classdict__" : Str)) = false) (e2 : (p2 == ("__classdict__" : Str)) = false) :
    FnOk P w K mg base CX0 1 fI fd [p1, p2] (spIni K f) := by
  refine F.ok Sc (fun vs H Q E h => ?_) fun cdv A outer s H vs Q E hr h => ⟨tOst K f (tVar 0) (tVar 1), ?_, ?_⟩
  · obtain ⟨a, C, y, rfl, _⟩ := h
    rfl
  · rw [hb]
    exact pss_one (ps_ost (pe_var (i := 0) rfl h1 d1 e1) (pe_var (i := 1) rfl h2 d2 e2) rfl)
  · obtain ⟨a, C, y, rfl, T, no, ha, q⟩ := h
    exact ⟨y, rfl, .ref a, rfl, a, C, rfl, T, no, .inl ⟨ha, q⟩⟩
section
variable {S : Js J} {B : Bs} {M : Nat → Bool} {W : WX} {X : Cx} {e : Expr} {pos p p2 : Pos} {fe : Ev J} {x : Str}
theorem mk_heap {H : Hp} {a dx : Addr} {o1 o2 o3 o4 : HO} (ha : H a = none) (hd : dx ≠ a) : upd (del (upd (upd (upd H a o1) dx o2) a o3) a) dx o4 = upd H dx o4 := by
  funext b
  by_cases h1 : b = dx
  · subst h1; rw [upd_same, upd_same]
  · rw [upd_ne h1, upd_ne h1]
    by_cases h2 : b = a
    · subst h2; rw [del_same, ha]
    · rw [del_ne h2, upd_ne h2, upd_ne h1, upd_ne h2]
theorem zRaise (c : Nat) (hK : X.K = S.K) (tk : Takes X W) (C : XMk S X.prog X.w X.mg X.base c x) (hr : Room 2 X.A) (he : PE X e (rdE S B M W .clean fe)) (hcalm : X.calm = true := by rfl) (hg : Gl X x := by rfl) (hdb : (x == ("__debug__" : Str)) = false := by decide)
    (hs : starEach [e] X.env = [(false, eval e X.env)] := by rfl) (hpl : (backTo pos (starEach [] X.env)).any (·.1) = false := by rfl) : PS X (.Raise (some (.Call (.Name x p) [e] [] pos)) none p2) (rdS S B M W (sRaise c fe)) := by
  obtain ⟨fI, fd, ps, F, h1, h2, h3⟩ := C.ex
  refine PS.imp (ps_raise hcalm tk (pmk_oex (ds := []) (dvs := []) (hK ▸ C.T) (hK ▸ h1) (hK ▸ h2) (hK ▸ F) hr (hK ▸ h3) .nil pass0 hg C.gl (a_cons (k := true) he a_nil hs) hdb hs hpl)) fun En r H ⟨g, m, j, P, Ep, ok, hf, q, xo⟩ => ?_
  refine ⟨g, m, j, fun ds j' => match ds with | [d] => Ep ⟨c, some d⟩ m j' | _ => False, Ep, ok, hf, fun ds j1 g1 vs H1 pp l1 ok1 w1 => ?_, xo⟩
  cases w1 with
  | nil => exact pp.elim
  | cons w1 wr =>
    cases wr with
    | cons _ _ => exact pp.elim
    | nil =>
      rename_i d v
      refine ⟨by simp, fun a na => ?_⟩
      refine ⟨a, S.xc c, v, rfl, hK ▸ C.T, hK ▸ C.no, upd_same, fun dx hdx hne => ⟨rfl, dx, [(S.xf c, v)], upd_same, ?_, ?_, ?_⟩⟩
      · rw [upd_ne hne, upd_same]
      · rw [upd_ne hne] at hdx; exact hdx
      · have nd : H1 dx = none := by rw [upd_ne hne] at hdx; exact hdx
        rw [mk_heap na hne]
        obtain ⟨n1, n2, n3, n4⟩ := ok1.b.hn nd
        have l2 : Le g1 (g1.frz dx (.xd [(S.xf c, v)])) := Le.frz ok1.b.fg n2
        exact xo _ _ _ _ _ _ _ _ pp (l1.f.trans l2.f) ⟨ok1.b.frz _ nd, ok1.s.le l2⟩ ⟨rfl, dx, v, rfl, upd_same, Rp.mono l2.f w1⟩
end

/-! ### what is known of the classes -/
structure XCl (K : PySem.W.Frag) (C : Addr) : Prop where
  ga : PySem.W.findIn K (.ref C) "__getattribute__" = some (some (.builtin "BaseException.__getattribute__"))
  gg : PySem.W.findIn K (.ref C) "__getattr__" = some none
  exC : PySem.W.subIn K (.ref C) (.type "BaseException") = some true
  hdC : PySem.W.hasDictIn K C = true
  ha : PySem.W.findIn K (.ref C) "__class__" = some (some (.builtin "object.__class__"))
  hn : PySem.W.specialIn K (.builtin "object.__class__") "__get__" = some (some (.builtin "getset_descriptor.__get__"))
  ht : PySem.W.takesIn K (.builtin "object.__class__") = some true
  hm : PySem.W.mroIn K C (.type "object") = some true
  ty : PySem.W.typeIn K (.ref C) = some (.type "type")
  ve : PySem.W.subIn K (.ref C) (.type "ValueError") = some true
theorem XCl.isSome {K : PySem.W.Frag} {C : Addr} (h : XCl K C) : (PySem.W.clsIn K C).isSome = true := by
  obtain ⟨cd, hc, _⟩ := PySem.W.any_some h.hdC
  rw [hc]; rfl
/-- n own classes, by numbers; tT tells which is below which -/
structure XT (K : PySem.W.Frag) (mg : Str → Option Value) (xc : Nat → Addr) (tT : Nat → Nat → Bool) (n : Nat) (names : List (Str × Nat)) (attrs : List Str) : Prop where
  gl : ∀ p ∈ names, mg p.1 = some (.ref (xc p.2)) ∧ p.2 < n
  cl : ∀ c, XCl K (xc c)
  no : ∀ f ∈ attrs, ∀ c, PySem.W.findIn K (.ref (xc c)) f = some none
  su : ∀ c k, k < n → PySem.W.subIn K (.ref (xc c)) (.ref (xc k)) = some (tT c k)
  rf : ∀ k, k < n → tT k k = true
section
variable {K : PySem.W.Frag} {mg : Str → Option Value} {xc : Nat → Addr} {tT : Nat → Nat → Bool} {n : Nat} {names : List (Str × Nat)} {attrs : List Str}
theorem XT.kit (T : XT K mg xc tT n names attrs) (c : Nat) {k : Nat} (hk : k < n) : PySem.W.kitOne K (.ref (xc c)) (.ref (xc k)) = some (tT c k) := by
  unfold PySem.W.kitOne
  split
  · rename_i h
    have e : xc c = xc k := Value.ref.inj (beq_iff_eq.mp h)
    have h1 := T.su c k hk
    rw [e, T.su k k hk, T.rf k hk] at h1
    exact h1
  · unfold PySem.W.kitCls
    have e2 : ((PySem.W.clsIn K (xc k)).isSome && PySem.W.typeIn K (.ref (xc k)) == some (.type "type")) = true := by rw [(T.cl k).isSome, (T.cl k).ty]; rfl
    show (if _ then _ else _) = _
    rw [if_pos e2]
    exact T.su c k hk
theorem kitMeta_ve : PySem.W.kitMeta "ValueError" = true := by decide +kernel
theorem XT.kitV (T : XT K mg xc tT n names attrs) (c : Nat) : PySem.W.kitOne K (.ref (xc c)) (.type "ValueError") = some true := by
  unfold PySem.W.kitOne
  split
  · rfl
  · unfold PySem.W.kitCls
    show (if _ then _ else _) = _
    rw [if_pos kitMeta_ve]
    exact (T.cl c).ve
theorem XT.exm (T : XT K mg xc tT n names attrs) (c : Nat) {k : Nat} (hk : k < n) : PySem.W.exmOne K (.ref (xc c)) (.ref (xc k)) = some (tT c k) := PySem.W.exm_ref (T.cl k).exC (T.cl k).hdC (T.cl k).ty (T.su c k hk)
end

/-! ### try -/
def sTry (i : Nat) (cat : Nat → Bool) (fb : Sv J) (fs : Addr → Ex → Sv J) (m : Sd) (j : J) (P : Fl → Sd → J → Prop) (E : XP J) : Prop :=
  fb m j P (fun e m' j' => if cat e.c = true then ∀ a, fs a e (m'.set i (some (.obj a))) j' (fun l m2 j2 => P l (m2.set i none) j2) (fun _ _ _ => False) else E e m' j')
instance {i : Nat} {cat : Nat → Bool} {fb : Sv J} {fs : Addr → Ex → Sv J} [h1 : MoS fb] [h2 : ∀ a e, MoS (fs a e)] : MoS (sTry i cat fb fs) :=
  ⟨fun h q x => h1.mo h q fun e m' j' z => ite_mono z (fun z a => (h2 a e).mo (z a) (fun _ _ _ p => q _ _ _ p) fun _ _ _ z => z) fun z => x _ _ _ z⟩
section
variable {S : Js J} {B : Bs} {M : Nat → Bool} {W : WX} {X : Cx} {g g' : Gh} {H H' : Hp} {j j' : J} {r : St} {m : Sd}
theorem OkB.inner (k : OkB S B g H j) : OkB S ⟨g.F, B.H0, B.A0⟩ g H j := ⟨k.fg, k.gh, k.ga, k.jr, Same.refl _, fun b o e => (k.g0 b o e).imp (fun z => k.f0 b o z) id, k.a0, k.h0, k.h1, k.sm⟩
theorem OkB.outer (k : OkB S B g H j) (z : OkB S ⟨g.F, B.H0, B.A0⟩ g' H' j') : OkB S B g' H' j' :=
  ⟨z.fg, z.gh, z.ga, z.jr, k.f0.trans z.f0, fun b o e => (z.g0 b o e).elim (fun y => k.g0 b o (k.fg b o y)) .inr, z.a0, z.h0, z.h1, z.sm⟩
theorem Slots.gone (h : Slots S g M r m) (i : Nat) : Slots S g M (r.set i none) (m.set i none) := by
  have ne : ∀ {k : Nat} {d : D}, (m.set i none)[k]? = some (some d) → k ≠ i ∧ m[k]? = some (some d) := fun {k d} e => by
    by_cases hk : k = i
    · subst hk
      by_cases hl : k < m.length
      · rw [List.getElem?_set_self hl] at e; cases e
      · rw [List.getElem?_eq_none (by simpa using hl)] at e; cases e
    · rw [List.getElem?_set_ne (Ne.symm hk)] at e
      exact ⟨hk, e⟩
  refine ⟨by simpa using h.len, fun k d e q => ?_, fun k d e q => ?_, fun k l a d d' e1 e2 q1 q2 r1 r2 => ?_⟩
  · obtain ⟨hk, e⟩ := ne e
    rw [List.getElem?_set_ne (Ne.symm hk)]
    exact h.fr k d e q
  · obtain ⟨hk, e⟩ := ne e
    rw [List.getElem?_set_ne (Ne.symm hk)]
    exact h.ow k d e q
  · obtain ⟨hk, e1⟩ := ne e1
    obtain ⟨hl, e2⟩ := ne e2
    rw [List.getElem?_set_ne (Ne.symm hk)] at r1
    rw [List.getElem?_set_ne (Ne.symm hl)] at r2
    exact h.dj k l a d d' e1 e2 q1 q2 r1 r2
variable {x n : Str} {c : Value} {i : Nat} {body suite : List Stmt} {b0 : Stmt} {np pos pos' : Pos} {cat : Nat → Bool} {fb : Sv J} {fs : Addr → Ex → Sv J}
theorem zTry (i : Nat) (hK : X.K = S.K) (hN : X.N.Nodup) (hc : Names X x c) (hcat : ∀ k, PySem.W.exmOne S.K (.ref (S.xc k)) c = some (cat k)) (tk : Takes X W)
    (hb : ∀ (W : WX) (pn : List (Addr × Obj)) (xe : Value → Shared → Prop), Takes (X.tr pn xe) W → PassesOwn (model X.prog X.w) X.A X.env xe → PSs (X.tr pn xe) body (rdS S B M W fb))
    (hsu : ∀ (a : Addr) (oe : Obj) (ex : Ex) (d : Option Addr) (pn : List (Addr × Obj)) (B' : Bs), Zc (.ref (S.xc ex.c)) d oe → (∃ vs, oe.data = .fields vs) → ExR S B'.F0 ex (.ref (S.xc ex.c)) d → PSs (X.suite a ((a, oe) :: pn)) (b0 :: suite) (rdS S B' M W0 (fs a ex)))
    (hM : M i = false := by rfl) (hi : X.N[i]? = some n := by rfl) (hln : X.env.kindOf n = some .local := by rfl) (hs : X.stack = X.env :: X.outer := by rfl) (hf : X.env.frame = some X.env.locals := by rfl) :
    PS X (.Try body [.ExceptHandler (some (.Name x np)) (some n) (b0 :: suite) pos'] [] [] pos) (rdS S B M W (sTry i cat fb fs)) := by
  refine PS.imp (ps_try_as (i := i) (Wout := W) (tb := fun W => rdS S B M W fb) (ts := fun a cls d D σ H => ∃ (ex : Ex) (B' : Bs), cls = .ref (S.xc ex.c) ∧ ExR S B'.F0 ex cls d ∧ rdS S B' M W0 (fs a ex) D σ H) hs hf hN hi hln hc tk hb ?_) fun D σ H h => ?_
  · intro a oe cls d pn hz hv
    refine ⟨fun pins s σ H D I h => ?_⟩
    obtain ⟨ex, B', rfl, hx, h⟩ := h
    exact (hsu a oe ex d pn B' hz hv hx).run pins s σ H D I h
  · obtain ⟨g, m, j, P, Ep, ok, hf, q, xo⟩ := h
    refine ⟨g, m, j, P, _, ok, hf, q, fun ex m' j' g' r' H' cls dx he l ok' xr => ?_⟩
    have hcls : cls = .ref (S.xc ex.c) := xr.1
    subst hcls
    refine ⟨cat ex.c, by rw [hK]; exact hcat _, fun hb1 a na => ?_, fun hb1 => ?_⟩
    · dsimp only at he
      rw [if_pos hb1] at he
      have st0 := he a
      refine ⟨ex, ⟨g'.F, B.H0, B.A0⟩, rfl, xr, g', _, j', _, _, ⟨ok'.b.inner, ok'.s.set_fr hM (.obj a)⟩, st0, fun fl m2 j2 p => ?_, XOut.no⟩
      cases fl with
      | next => exact fun g3 r3 H3 l3 ok3 => q _ _ _ p g3 _ H3 (l.trans l3) ⟨ok'.b.outer ok3.b, ok3.s.gone i⟩
      | brk => exact fun g3 r3 H3 l3 ok3 => q _ _ _ p g3 _ H3 (l.trans l3) ⟨ok'.b.outer ok3.b, ok3.s.gone i⟩
      | cnt => exact fun g3 r3 H3 l3 ok3 => q _ _ _ p g3 _ H3 (l.trans l3) ⟨ok'.b.outer ok3.b, ok3.s.gone i⟩
      | ret d => exact fun g3 H3 v3 ok3 rv => q _ _ _ p g3 H3 v3 (ok'.b.outer ok3) rv
    · dsimp only at he
      rw [if_neg (by rw [hb1]; exact Bool.false_ne_true)] at he
      exact xo _ _ _ _ _ _ _ _ he l ok' xr
end

/-! ### in the suite -/
/-- isinstance(x, ..): x is what was caught -/
def eIsX (a : Addr) (b : Bool) (y : Option D) (fe : Ev J) (m : Sd) (j : J) (P : D → J → Prop) (E : XP J) : Prop := fe m j (fun d j1 => d = .obj a ∧ (∃ z, y = some z) ∧ P (.bl b) j1) E
/-- x.f -/
def eXf (a : Addr) (ok : Prop) (y : Option D) (fe : Ev J) (m : Sd) (j : J) (P : D → J → Prop) (E : XP J) : Prop := fe m j (fun d j1 => d = .obj a ∧ ok ∧ ∃ z, y = some z ∧ P z j1) E
instance {a : Addr} {b : Bool} {y : Option D} {fe : Ev J} [h1 : MoE fe] : MoE (eIsX a b y fe) := ⟨fun h q x => h1.mo h (fun _ _ ⟨e, z, p⟩ => ⟨e, z, q _ _ p⟩) x⟩
instance {a : Addr} {ok : Prop} {y : Option D} {fe : Ev J} [h1 : MoE fe] : MoE (eXf a ok y fe) := ⟨fun h q x => h1.mo h (fun _ _ ⟨e, o, z, ez, p⟩ => ⟨e, o, z, ez, q _ _ p⟩) x⟩
def rIsX (K : PySem.W.Frag) (C a : Addr) (d : Option Addr) : List V → Hp → VK → Prop := fun xs H Q => ∃ (c : V) (dd : Addr) (fs : List (Str × V)), xs = [.ref a, c] ∧ d = some dd ∧ H dd = some (.xd fs) ∧
  ((∃ (cv : Value) (b : Bool), (∀ u, RelV c u → u = cv) ∧ PySem.W.kitOne K (.ref C) cv = some b ∧ Q (.bl b) H) ∨
   ∃ (tp : Addr) (o : Obj) (cs : List V) (vs : List Value) (b : Bool), c = .ref tp ∧ H tp = some (.frz o (.tup cs)) ∧ (∀ us, Vals cs us → us = vs) ∧ PySem.W.kitAny K (.ref C) vs = some b ∧ Q (.bl b) H)
theorem call_isX {X : Cx} {a C : Addr} {oe : Obj} {d : Option Addr} {pn : List (Addr × Obj)} (T : XCl X.K C) (hz : Zc (.ref C) d oe) (hf : ∃ vs, oe.data = .fields vs) : CallR (X.suite a ((a, oe) :: pn)) (.builtin "isinstance") (rIsX X.K C a d) := by
  intro pins s σ H xs us Q I r h
  obtain ⟨c, dd, fs, rfl, rfl, hdd, h⟩ := h
  cases r with
  | cons rx rr =>
    cases rr with
    | cons rt rr =>
      cases rr
      cases rx
      obtain ⟨hget, _⟩ := I.pin (a, oe) (List.mem_append.mpr (.inl List.mem_cons_self))
      obtain ⟨vs, hv⟩ := hf
      have hx : ObjOk X.prog X.w H s.heap dd (.xd fs) := I.hok dd _ hdd
      obtain ⟨mA, hns, hr⟩ := hx
      obtain ⟨od, ho, hl⟩ := lookIn_ns hns
      have Ji : PySem.W.InstAt s.heap a oe C (some od) := ⟨hget, hz.1, by unfold PySem.W.notCls; rw [hv] <;> rfl, by rw [hz.2]; exact ho⟩
      have Z : PySem.W.KitX X.K (.ref a) (.ref C) (fun h => PySem.W.InstAt h a oe C (some od)) := PySem.W.kitx_exc T.isSome T.ga T.gg T.exC T.ha T.hn T.ht T.hm
      rcases h with ⟨cv, b, hcv, e, q⟩ | ⟨tp, o, cs, vs', b, rfl, htp, hvs, e, q⟩
      · have ec := hcv _ rt
        subst ec
        exact PySem.W.kia_one Z I.kIn Ji e (fun z => nomatch z) fun tk => ⟨.bl b, H, I.kept (t' := tk) fun _ _ z => z, rfl, q⟩
      · cases rt
        obtain ⟨its, rv, ⟨o2, ho2, hc2, n2, hd2⟩, _⟩ := I.tuple (xs := cs) (.inl (.inr ⟨o, htp⟩))
        have ev := hvs _ rv
        subst ev
        obtain ⟨oc, odd, oda, osl⟩ := o2
        dsimp only at hc2 hd2
        subst hc2 hd2
        exact PySem.W.kia_tup Z I.kIn Ji ho2 e (fun z => nomatch z) fun tk => ⟨.bl b, H, I.kept (t' := tk) fun _ _ z => z, rfl, q⟩
section
variable {S : Js J} {B : Bs} {M : Nat → Bool} {W : WX} {X : Cx} {e : Expr} {pos p p2 : Pos} {fe : Ev J} {x : Str} {a : Addr} {oe : Obj} {ex : Ex} {d : Option Addr} {pn : List (Addr × Obj)}
variable {mg : Str → Option Value} {tT : Nat → Nat → Bool} {n : Nat} {names : List (Str × Nat)} {attrs : List Str}
theorem exr_at (hx : ExR S B.F0 ex (.ref (S.xc ex.c)) d) {z : D} (hz : ex.d = some z) {g : Gh} {H : Hp} {j : J} (ok : OkB S B g H j) : ∃ dd v, d = some dd ∧ H dd = some (.xd [(S.xf ex.c, v)]) ∧ Rp S g.F z v := by
  obtain ⟨_, h2⟩ := hx
  rw [hz] at h2
  obtain ⟨dd, v, h3, h4, h5⟩ := h2
  exact ⟨dd, v, h3, ok.gh _ _ (ok.fg _ _ (ok.f0 _ _ h4)), h5.mono ok.f0⟩
/-- class names as values -/
theorem pac_nil : PA X [] (fun _ H Q => Q [] H) := pa_nil
theorem pac_cons {te : Expr} {es : List Expr} {v : V} {vs : List V} (h : PE X te (tC v)) (r : PA X es (fun _ H Q => Q vs H)) (hs : starEach (te :: es) X.env = (false, eval te X.env) :: starEach es X.env := by rfl) : PA X (te :: es) (fun _ H Q => Q (v :: vs) H) :=
  PA.imp (pa_cons h r hs) fun _ _ _ h => h
theorem isX0 {v : V} {cv : Value} {b : Bool} {te : Expr} (T : XCl S.K (S.xc ex.c)) (hK : X.K = S.K) (hz : Zc (.ref (S.xc ex.c)) d oe) (hf : ∃ vs, oe.data = .fields vs) (hx : ExR S B.F0 ex (.ref (S.xc ex.c)) d)
    (hm : X.mg "isinstance" = none) (hcl : PE (X.suite a ((a, oe) :: pn)) te (tC v)) (hrel : ∀ u, RelV v u → u = cv) (hkit : PySem.W.kitOne S.K (.ref (S.xc ex.c)) cv = some b) (he : PE (X.suite a ((a, oe) :: pn)) e (rdE S B M W .clean fe)) (hg : Gl X "isinstance")
    (hs : starEach [e, te] X.env = (false, eval e X.env) :: starEach [te] X.env) (hs1 : starEach [te] X.env = [(false, eval te X.env)]) (hpl : (backTo pos (starEach [te] X.env)).any (·.1) = false) :
    PE (X.suite a ((a, oe) :: pn)) (.Call (.Name "isinstance" p) [e, te] [] pos) (rdE S B M W .clean (eIsX a b ex.d fe)) :=
  PE.imp (pe_callB (call_isX (hK ▸ T) hz hf) hg hm (by decide +kernel) (pa_cons he (pa_cons hcl pa_nil hs1) hs) (by decide) (by decide) hs hpl) fun r H Q ⟨g, m, j, P, E, ok, hf, q, xo⟩ => by
    refine ⟨g, m, j, _, E, ok, hf, fun d1 j1 g1 v1 H1 hh l1 ok1 w1 => ?_, xo⟩
    obtain ⟨rfl, ⟨z, hz⟩, pp⟩ := hh
    obtain ⟨dd, y, h3, h4, h5⟩ := exr_at hx hz ok1.b
    cases w1
    exact ⟨v, dd, _, rfl, h3, h4, .inl ⟨cv, b, hrel, hK ▸ hkit, q _ _ g1 _ H1 pp l1 ok1 (.bl _)⟩⟩
theorem isXn {k : Nat} (hX : XT S.K X.mg S.xc tT n names attrs) (hk : (x, k) ∈ names) (hK : X.K = S.K) (hz : Zc (.ref (S.xc ex.c)) d oe) (hf : ∃ vs, oe.data = .fields vs) (hx : ExR S B.F0 ex (.ref (S.xc ex.c)) d)
    (hm : X.mg "isinstance" = none) (he : PE (X.suite a ((a, oe) :: pn)) e (rdE S B M W .clean fe)) (hg : Gl X "isinstance" := by rfl) (hgx : Gl X x := by rfl) (hdb : (x == ("__debug__" : Str)) = false := by decide)
    (hs : starEach [e, .Name x p2] X.env = (false, eval e X.env) :: starEach [.Name x p2] X.env := by rfl) (hs1 : starEach [.Name x p2] X.env = [(false, eval (.Name x p2) X.env)] := by rfl) (hpl : (backTo pos (starEach [.Name x p2] X.env)).any (·.1) = false := by rfl) :
    PE (X.suite a ((a, oe) :: pn)) (.Call (.Name "isinstance" p) [e, .Name x p2] [] pos) (rdE S B M W .clean (eIsX a (tT ex.c k) ex.d fe)) :=
  isX0 (v := .ref (S.xc k)) (cv := .ref (S.xc k)) (hX.cl _) hK hz hf hx hm (pe_glob (X := X.suite a ((a, oe) :: pn)) hgx (hX.gl _ hk).1 rfl hdb) (fun u h => h) (hX.kit _ (hX.gl _ hk).2) he hg hs hs1 hpl
theorem isXv (hX : XT S.K X.mg S.xc tT n names attrs) (hK : X.K = S.K) (hz : Zc (.ref (S.xc ex.c)) d oe) (hf : ∃ vs, oe.data = .fields vs) (hx : ExR S B.F0 ex (.ref (S.xc ex.c)) d)
    (hm : X.mg "isinstance" = none) (hv : X.mg "ValueError" = none) (he : PE (X.suite a ((a, oe) :: pn)) e (rdE S B M W .clean fe)) (hg : Gl X "isinstance" := by rfl) (hgx : Gl X "ValueError" := by rfl)
    (hs : starEach [e, .Name "ValueError" p2] X.env = (false, eval e X.env) :: starEach [.Name "ValueError" p2] X.env := by rfl) (hs1 : starEach [.Name "ValueError" p2] X.env = [(false, eval (.Name "ValueError" p2) X.env)] := by rfl) (hpl : (backTo pos (starEach [.Name "ValueError" p2] X.env)).any (·.1) = false := by rfl) :
    PE (X.suite a ((a, oe) :: pn)) (.Call (.Name "isinstance" p) [e, .Name "ValueError" p2] [] pos) (rdE S B M W .clean (eIsX a true ex.d fe)) :=
  isX0 (v := .ty "ValueError") (cv := .type "ValueError") (hX.cl _) hK hz hf hx hm (pe_bltn (X := X.suite a ((a, oe) :: pn)) hgx hv PyProof.Rows.Boot.«ValueError» rfl) (fun u h => h) (hX.kitV _) he hg hs hs1 hpl
theorem XT.any {K : PySem.W.Frag} {mg : Str → Option Value} {xc : Nat → Addr} (T : XT K mg xc tT n names attrs) (c : Nat) : ∀ ks : List Nat, (∀ k ∈ ks, k < n) → PySem.W.kitAny K (.ref (xc c)) (ks.map fun k => .ref (xc k)) = some (ks.any (tT c))
  | [], _ => rfl
  | k :: ks, h => by
    rw [List.map_cons, List.any_cons]
    unfold PySem.W.kitAny
    rw [T.kit c (h k List.mem_cons_self)]
    cases tT c k with
    | true => rfl
    | false => exact T.any c ks fun y hy => h y (List.mem_cons_of_mem _ hy)
theorem vals_refs {xc : Nat → Addr} : ∀ (ks : List Nat) (us : List Value), Vals (ks.map fun k => V.ref (xc k)) us → us = ks.map fun k => .ref (xc k)
  | [], _, h => by cases h; rfl
  | k :: ks, _, h => by
    cases h with
    | cons h1 h2 => rw [vals_refs ks _ h2]; obtain rfl := h1; rfl
/-- isinstance(x, (C, D)) -/
theorem isXt {es : List Expr} {k1 : Nat} {pt : Pos} (ks : List Nat) (hX : XT S.K X.mg S.xc tT n names attrs) (hks : ∀ k ∈ ks, k < n) (hK : X.K = S.K) (hz : Zc (.ref (S.xc ex.c)) d oe) (hf : ∃ vs, oe.data = .fields vs) (hx : ExR S B.F0 ex (.ref (S.xc ex.c)) d)
    (hm : X.mg "isinstance" = none) (he : PE (X.suite a ((a, oe) :: pn)) e (rdE S B M W .clean fe)) (hcl : PA (X.suite a ((a, oe) :: pn)) es (fun _ H Q => Q (ks.map fun k => V.ref (S.xc k)) H)) (hlen : ks.length ≤ 1000 := by decide) (hg : Gl X "isinstance" := by rfl)
    (hs : starEach [e, .Tuple es k1 pt] X.env = (false, eval e X.env) :: starEach [.Tuple es k1 pt] X.env := by rfl) (hs1 : starEach [.Tuple es k1 pt] X.env = [(false, eval (.Tuple es k1 pt) X.env)] := by rfl) (hpl : (backTo pos (starEach [.Tuple es k1 pt] X.env)).any (·.1) = false := by rfl) :
    PE (X.suite a ((a, oe) :: pn)) (.Call (.Name "isinstance" p) [e, .Tuple es k1 pt] [] pos) (rdE S B M W .clean (eIsX a (ks.any (tT ex.c)) ex.d fe)) :=
  PE.imp (pe_callB (call_isX (hK ▸ hX.cl ex.c) hz hf) hg hm (by decide +kernel) (pa_cons he (pa_cons (pe_tupF hcl) pa_nil hs1) hs) (by decide) (by decide) hs hpl) fun r H Q ⟨g, m, j, P, E, ok, hf, q, xo⟩ => by
    refine ⟨g, m, j, _, E, ok, hf, fun d1 j1 g1 v1 H1 hh l1 ok1 w1 => ?_, xo⟩
    obtain ⟨rfl, ⟨z, hz⟩, pp⟩ := hh
    cases w1
    refine ⟨by rw [List.length_map, sizeLine_eq]; omega, fun tp o ntp hdo => ?_⟩
    obtain ⟨n1, n2, n3, n4⟩ := ok1.b.hn ntp
    have l2 : Le g1 (g1.frz tp (.frz o (.tup (ks.map fun k => V.ref (S.xc k))))) := Le.frz ok1.b.fg n2
    have ok2 := ok1.b.frz (.frz o (.tup (ks.map fun k => V.ref (S.xc k)))) ntp
    obtain ⟨dd, y, h3, h4, h5⟩ := exr_at hx hz ok2
    exact ⟨_, dd, _, rfl, h3, h4, .inr ⟨tp, o, _, ks.map fun k => .ref (S.xc k), _, rfl, upd_same, fun us hus => vals_refs ks us hus, hK ▸ hX.any ex.c ks hks, q _ _ _ _ _ pp (l1.trans l2) ⟨ok2, ok1.s.le l2⟩ (.bl _)⟩⟩
theorem clN {k : Nat} (hX : XT S.K X.mg S.xc tT n names attrs) (hk : (x, k) ∈ names) (hgx : Gl X x := by rfl) (hdb : (x == ("__debug__" : Str)) = false := by decide) : PE (X.suite a ((a, oe) :: pn)) (.Name x p2) (tC (.ref (S.xc k))) :=
  pe_glob (X := X.suite a ((a, oe) :: pn)) hgx (hX.gl _ hk).1 rfl hdb
/-- x.f -/
theorem xF {f : Str} (hX : XT S.K X.mg S.xc tT n names attrs) (hf' : f ∈ attrs) (hK : X.K = S.K) (hz : Zc (.ref (S.xc ex.c)) d oe) (hf : ∃ vs, oe.data = .fields vs) (hx : ExR S B.F0 ex (.ref (S.xc ex.c)) d) (he : PE (X.suite a ((a, oe) :: pn)) e (rdE S B M W .clean fe)) (hb : attributeBase e f X.env (eval e X.env) = eval e X.env := by rfl) :
    PE (X.suite a ((a, oe) :: pn)) (.Attribute e f pos) (rdE S B M W .clean (eXf a (S.xf ex.c = f) ex.d fe)) :=
  PE.imp (pe_xf (C := S.xc ex.c) (by rw [hK]; exact ⟨(hX.cl _).ga, (hX.cl _).gg, (hX.cl _).exC, (hX.cl _).hdC⟩) (by rw [hK]; exact hX.no f hf' _) hz hf he hb) fun r H Q ⟨g, m, j, P, E, ok, hf, q, xo⟩ => by
    refine ⟨g, m, j, _, E, ok, hf, fun d1 j1 g1 v1 H1 hh l1 ok1 w1 => ?_, xo⟩
    obtain ⟨rfl, rfl, z, hz, pp⟩ := hh
    obtain ⟨dd, y, h3, h4, h5⟩ := exr_at hx hz ok1.b
    cases w1
    exact ⟨rfl, rfl, dd, _, y, h3, h4, by simp [List.lookup], q _ _ g1 y H1 pp l1 ok1 h5⟩
end
/-! ### dicts with nothing or one pair of constants -/
section
variable {S : Js J} {B : Bs} {M : Nat → Bool} {W : WX} {X : Cx} {pos p1 p2 : Pos} {x : Str} {i : Int} {k1 k2 : Nat}
theorem dct0 : PE X (.Dict [] [] pos) (rdE S B M W .fresh (eC (.dct []))) :=
  PE.imp pe_dnewK fun r H Q ⟨g, m, j, P, E, ok, hf, q, xo⟩ p np => by
    obtain ⟨n1, n2, n3, n4⟩ := ok.b.hn np
    have l2 : Le g (g.see p (.dK [])) := Le.see n2
    exact q _ _ _ _ _ hf l2 ⟨ok.b.see _ np, ok.s.le l2⟩ ⟨p, rfl, n2, n1, .inr (.inl ⟨[], [], rfl, upd_same, rfl, .nil⟩)⟩
theorem dct1 : PE X (.Dict [some (.Constant (.str x) k1 p1)] [.Constant (.int i) k2 p2] pos) (rdE S B M W .fresh (eC (.dct [(.inr x, .int i)]))) :=
  PE.imp (pe_disp (pps_cons (pe_str (x := x) (j := k1) (pos := p1)) (pe_int (i := i) (j := k2) (pos := p2)) pps_nil) rfl rfl (by simp) (by simp)) fun r H Q ⟨g, m, j, P, E, ok, hf, q, xo⟩ p np => by
    obtain ⟨n1, n2, n3, n4⟩ := ok.b.hn np
    refine ⟨upd_same, [(.inr x, .int i)], rfl, by simp, ?_⟩
    rw [upd_upd]
    have l2 : Le g (g.see p (.dK [(.inr x, .int i)])) := Le.see n2
    exact q _ _ _ _ _ hf l2 ⟨ok.b.see _ np, ok.s.le l2⟩ ⟨p, rfl, n2, n1, .inr (.inl ⟨[(.inr x, .int i)], [(.inr x, .int i)], rfl, upd_same, rfl, .cons (.int _) .nil⟩)⟩
end
/-! ### step by step -/
section
variable {f : Ev J} {fb : Sv J} {fs : Addr → Ex → Sv J} {m : Sd} {j : J} {P : D → J → Prop} {PS : Fl → Sd → J → Prop} {E : XP J} {c i : Nat} {a : Addr} {b : Bool} {y : Option D} {ok : Prop} {cat : Nat → Bool}
@[simp ↓] theorem a_raise : sRaise c f m j PS E = f m j (fun d j1 => E ⟨c, some d⟩ m j1) E := rfl
@[simp ↓] theorem a_isx : eIsX a b y f m j P E = f m j (fun d j1 => d = .obj a ∧ (∃ z, y = some z) ∧ P (.bl b) j1) E := rfl
@[simp ↓] theorem a_xf : eXf a ok y f m j P E = f m j (fun d j1 => d = .obj a ∧ ok ∧ ∃ z, y = some z ∧ P z j1) E := rfl
@[simp ↓] theorem a_try : sTry i cat fb fs m j PS E = fb m j PS (fun e m' j' => if cat e.c = true then ∀ a, fs a e (m'.set i (some (.obj a))) j' (fun l m2 j2 => PS l (m2.set i none) j2) (fun _ _ _ => False) else E e m' j') := rfl
end
/-! ### xs == [], xs != [], whatever the items are -/
def eqLD (x y : D) : Option D := match x, y with | .lst (_ :: _), .lst [] => some (.bl false) | x, y => eqD x y
def neLD (x y : D) : Option D := match x, y with | .lst (_ :: _), .lst [] => some (.bl true) | x, y => neD x y
def rLn (K : PySem.W.Frag) (b : Bool) : R2 := fun x y H Q => ∃ a c xs, x = .ref a ∧ y = .ref c ∧ SqL K H a xs ∧ SqL K H c [] ∧ xs ≠ [] ∧ Q (.bl b) H
section
variable {S : Js J} {X : Cx}
theorem ln_lists {pins : List (Addr × Obj)} {σ : St} {H : Hp} {s : Shared} {a c : Addr} {xs : List V} (I : Inv X pins σ H s) (ha : SqL X.K H a xs) (hc : SqL X.K H c []) (hx : xs ≠ []) :
    ∃ i1 i2 : Array Value, s.heap.IsList a i1 ∧ s.heap.IsList c i2 ∧ (i1.size != i2.size) = true := by
  obtain ⟨its, r, ⟨o, n, e1, e2, _, e3⟩, _⟩ := I.list ha
  obtain ⟨its', r', ⟨o', n', f1, f2, _, f3⟩, _⟩ := I.list hc
  cases r'
  refine ⟨its.toArray, _, ⟨o, e1, e2, n, e3⟩, ⟨o', f1, f2, n', f3⟩, ?_⟩
  have := r.length
  have h0 : 0 < xs.length := List.length_pos_iff.mpr hx
  simp only [List.size_toArray, List.length_nil, bne_iff_ne, ne_eq]
  omega
theorem op_eqLn (hu : X.A.units + 64 < cLine) : OpR X (compareOp .Eq) (rLn X.K false) := by
  intro pins s σ H x y v u Q I rx ry h
  obtain ⟨a, c, xs, rfl, rfl, ha, hc, hx, q⟩ := h
  obtain ⟨i1, i2, h1, h2, h3⟩ := ln_lists I ha hc hx
  cases rx; cases ry
  exact SeqAt.RcAt.lists_lengths h1 h2 h3 (by omega) _ _ _ _ ⟨.bl _, H, I, rfl, q⟩
theorem op_neLn (hu : X.A.units + 64 < cLine) : OpR X (compareOp .NotEq) (rLn X.K true) := by
  intro pins s σ H x y v u Q I rx ry h
  obtain ⟨a, c, xs, rfl, rfl, ha, hc, hx, q⟩ := h
  obtain ⟨i1, i2, h1, h2, h3⟩ := ln_lists I ha hc hx
  cases rx; cases ry
  exact SeqAt.RcNeAt.lists_lengths h1 h2 h3 (by omega) _ _ _ _ ⟨.bl _, H, I, rfl, q⟩
theorem kEqL (hK : X.K = S.K) (hu : X.A.units + 64 < cLine) : OpR X (compareOp .Eq) (fun x y H Q => rEqE S.K x y H Q ∨ rLn S.K false x y H Q) := (kEq hK hu).or (hK ▸ op_eqLn hu)
theorem kNeL (hK : X.K = S.K) (hu : X.A.units + 64 < cLine) : OpR X (compareOp .NotEq) (fun x y H Q => rNeE S.K x y H Q ∨ rLn S.K true x y H Q) := (kNe hK hu).or (hK ▸ op_neLn hu)
theorem s_eqL : OpS S (fun x y H Q => rEqE S.K x y H Q ∨ rLn S.K false x y H Q) eqLD false .clean := by
  intro B g H j d1 d2 d v1 v2 Q ok h1 h2 e q
  unfold eqLD at e
  split at e
  · cases e
    cases h1 with
    | lst e1 r1 =>
      cases h2 with
      | lst e2 r2 =>
        cases r2
        refine .inr ⟨_, _, _, rfl, rfl, SqL.of (ok.gh _ _ e1), SqL.of (ok.gh _ _ e2), fun z => ?_, q g _ H (Le.refl g) ok (.bl _)⟩
        rw [z] at r1; cases r1
  · exact .inl (s_eq B g H j _ _ d v1 v2 Q ok h1 h2 e q)
theorem s_neL : OpS S (fun x y H Q => rNeE S.K x y H Q ∨ rLn S.K true x y H Q) neLD false .clean := by
  intro B g H j d1 d2 d v1 v2 Q ok h1 h2 e q
  unfold neLD at e
  split at e
  · cases e
    cases h1 with
    | lst e1 r1 =>
      cases h2 with
      | lst e2 r2 =>
        cases r2
        refine .inr ⟨_, _, _, rfl, rfl, SqL.of (ok.gh _ _ e1), SqL.of (ok.gh _ _ e2), fun z => ?_, q g _ H (Le.refl g) ok (.bl _)⟩
        rw [z] at r1; cases r1
  · exact .inl (s_ne B g H j _ _ d v1 v2 Q ok h1 h2 e q)
end
@[simp] theorem eqL_n {xs : List D} : eqLD (.lst xs) (.lst []) = some (.bl xs.isEmpty) := by
  cases xs with
  | nil => exact (show eqD (.lst []) (.lst []) = some (.bl true) from rfl)
  | cons x r => rfl
@[simp] theorem neL_n {xs : List D} : neLD (.lst xs) (.lst []) = some (.bl (!xs.isEmpty)) := by
  cases xs with
  | nil => exact (show neD (.lst []) (.lst []) = some (.bl false) from rfl)
  | cons x r => rfl
end Mp

namespace Mp
open PySem PySem.Spec L2
open PyProof.Rows hiding St
abbrev ZR (h : Heap) (z TI TO : Addr) (f0 f1 : Value) : Prop := h.get? z = some { cls := .type "zip", dict := none, data := .fields #[f0, f1, .bool false, .ref TI, .ref TO], slots := #[] }
def Fo (f : Value) : Prop := f = .none ∨ ∃ a : Nat, f = rawInt (a : Int)
section
variable {prog : Program} {w : World} {A : Around} {E : Value → Shared → Prop} {s : Shared}
theorem la_ok {a : Addr} {Q : Option Obj → Shared → Prop} (h : Q (s.heap.get? a) s) : wpAny (model prog w) A (loadIfAlive a) Q E s := by
  unfold loadIfAlive
  intro p
  simp only [Sem.wp_loadIfAlive]
  exact wpAny_pure h p
theorem zn_free {z TI TO : Addr} {f0 f1 : Value} {Q : Bool → Shared → Prop} (hz : ZR s.heap z TI TO f0 f1) (hf : Fo f0) (h1 : Q true s) (h2 : ∀ h', ZR h' z TI TO f0 (.bool true) → Heap.SameBut z s.heap h' → Q false { s with heap := h' }) :
    wpAny (model prog w) A (Builtin.SmallTypes.ownedTupleIsFree (.ref z)) Q E s := by
  unfold Builtin.SmallTypes.ownedTupleIsFree
  refine wpAny_bind (wpAny_field hz rfl (x := f0) rfl ?_)
  rcases hf with rfl | ⟨a, rfl⟩
  · exact wpAny_pure h1
  · show wpAny (model prog w) A (loadIfAlive ((a : Int).toNat) >>= _) _ _ _
    rw [Int.toNat_natCast]
    refine wpAny_bind (la_ok ?_)
    cases hg : s.heap.get? a with
    | none => exact wpAny_pure h1
    | some o =>
      simp only [Option.isNone_some, Bool.false_eq_true, if_false]
      refine wpAny_bind (wpAny_field hz rfl (x := f1) rfl ?_)
      by_cases e : f1 = .bool true
      · subst e
        rw [if_neg (by simp)]
        exact wpAny_pure (h2 s.heap hz (Heap.SameBut.refl _ _))
      · rw [if_pos (by simpa using e)]
        refine wpAny_bind (wpAny_setField_rec hz (by simp) fun h' hz' hs' => ?_)
        exact wpAny_pure (h2 h' hz' hs')
theorem zn_item {z TI TO i1 i2 l1 l2 : Addr} {k1 k2 : Nat} {xs ys : Array Value} {x y a b f0 f1 : Value} {Q : Value → Shared → Prop} (D : ZipApart z TI TO i1 i2 l1 l2) (hz : ZR s.heap z TI TO f0 f1) (hf : Fo f0) (hTI : IsPair s.heap TI (.ref i1) (.ref i2)) (hTO : IsPair s.heap TO a b)
    (h1 : s.heap.IsListIter i1 l1 k1) (h2 : s.heap.IsListIter i2 l2 k2) (hl1 : s.heap.IsList l1 xs) (hl2 : s.heap.IsList l2 ys) (hx : xs[k1]? = some x) (hy : ys[k2]? = some y)
    (hQ : ∀ h' g0 g1, Fo g0 → ZR h' z TI TO g0 g1 → (∃ c d, IsPair h' TO c d) → h'.IsListIter i1 l1 (k1 + 1) → h'.IsListIter i2 l2 (k2 + 1) → IsPair h' s.heap.objs.size x y → h'.objs.size = s.heap.objs.size + 1 →
      (∀ c o, c ≠ z → c ≠ TO → c ≠ i1 → c ≠ i2 → s.heap.get? c = some o → h'.get? c = some o) → Q (.ref s.heap.objs.size) { s with heap := h' }) :
    wpAny (model prog w) A (Builtin.«zip.__next__» ⟨[.ref z], []⟩) (fun fin s' => ∃ v, fin = .done (.ret v) ∧ Q v s') E s := by
  show wpAny (model prog w) A (field (.ref z) 2 >>= _) _ _ _
  refine wpAny_bind (wpAny_field hz rfl (x := .bool false) rfl ?_)
  show wpAny (model prog w) A (field (.ref z) 3 >>= _) _ _ _
  refine wpAny_bind (wpAny_field hz rfl (x := .ref TI) rfl (wpAny_bind (wpAny_seqItems hTI rfl ?_)))
  show wpAny (model prog w) A (Builtin.SmallTypes.ownedTupleIsFree (.ref z) >>= _) _ _ _
  refine wpAny_bind (zn_free hz hf ?_ fun h0 hz0 hs0 => ?_)
  · simp only [if_true]
    refine wpAny_bind (wpAny_rule (wpAny_bind (wpAny_field hz rfl (x := .ref TO) rfl (wpAny_bind (wpAny_setField_rec hz (by simp) fun g1 hz1 hs1 => ?_)))))
    replace hz1 : ZR g1 z TI TO .ellipsis f1 := hz1
    refine wpAny_bind ?_
    simp only [List.zipIdx_cons, List.zipIdx_nil, List.forIn_cons, List.forIn_nil]
    refine wpAny_bind (wpAny_bind (wpAny_onRaise ?_))
    show wpAny (model prog w) A (Builtin.SmallTypes.nextOf (.ref i1) >>= _) _ _ _
    refine wpAny_bind (wpAny_nextOf_list_item (s := { s with heap := g1 }) (h1.extBut hs1.extBut D.i1z) (hl1.extBut hs1.extBut D.l1z) hx fun g2 h12 hs2 => wpAny_pure ?_)
    have hTO2 : IsPair g2 TO a b := hs2.extBut _ _ D.TOi1 (hs1.extBut _ _ D.TOz hTO)
    refine wpAny_bind (wpAny_seqItems hTO2 rfl (wpAny_bind (wpAny_updateSeq_pair (s := { s with heap := g2 }) hTO2 fun g3 hTO3 hs3 => ?_)))
    replace hTO3 : IsPair g3 TO x b := hTO3
    refine wpAny_bind (wpAny_letGo (wpAny_pure (wpAny_bind (wpAny_bind (wpAny_onRaise ?_)))))
    show wpAny (model prog w) A (Builtin.SmallTypes.nextOf (.ref i2) >>= _) _ _ _
    refine wpAny_bind (wpAny_nextOf_list_item (s := { s with heap := g3 }) (((h2.extBut hs1.extBut D.i2z).extBut hs2.extBut D.i12.symm).extBut hs3.extBut D.TOi2.symm) (((hl2.extBut hs1.extBut D.l2z).extBut hs2.extBut D.l2i1).extBut hs3.extBut D.l2TO) hy fun g4 h24 hs4 => wpAny_pure ?_)
    have hTO4 : IsPair g4 TO x b := hs4.extBut _ _ D.TOi2 hTO3
    refine wpAny_bind (wpAny_seqItems hTO4 rfl (wpAny_bind (wpAny_updateSeq_pair (s := { s with heap := g4 }) hTO4 fun g5 hTO5 hs5 => ?_)))
    replace hTO5 : IsPair g5 TO x y := hTO5
    refine wpAny_bind (wpAny_letGo (wpAny_pure (wpAny_pure (wpAny_bind (wpAny_seqItems hTO5 rfl (wpAny_bind (wpAny_newTuple ?_)))))))
    have sz : g5.objs.size = s.heap.objs.size := by rw [hs5.1, hs4.1, hs3.1, hs2.1, hs1.1]
    have hz5 : ZR g5 z TI TO .ellipsis f1 := hs5.extBut _ _ D.TOz.symm (hs4.extBut _ _ D.i2z.symm (hs3.extBut _ _ D.TOz.symm (hs2.extBut _ _ D.i1z.symm hz1)))
    have keep : ∀ c o, c ≠ z → c ≠ TO → c ≠ i1 → c ≠ i2 → s.heap.get? c = some o → g5.get? c = some o := fun c o c1 c2 c3 c4 e => hs5.extBut _ _ c2 (hs4.extBut _ _ c4 (hs3.extBut _ _ c2 (hs2.extBut _ _ c3 (hs1.extBut _ _ c1 e))))
    have h15 : g5.IsListIter i1 l1 (k1 + 1) := ((h12.extBut hs3.extBut D.TOi1.symm).extBut hs4.extBut D.i12).extBut hs5.extBut D.TOi1.symm
    have h25 : g5.IsListIter i2 l2 (k2 + 1) := h24.extBut hs5.extBut D.TOi2.symm
    have zlt : z < g5.objs.size := Heap.lt_size hz5
    show wpAny (model prog w) A (Builtin.SmallTypes.ownedTupleHandOut (.ref z) (.ref g5.objs.size) >>= _) _ _ _
    refine wpAny_bind ?_
    unfold Builtin.SmallTypes.ownedTupleHandOut
    have hz6 : ZR (g5.push { cls := .type "tuple", data := .seq #[x, y] }) z TI TO .ellipsis f1 := Heap.get?_push_of_some _ hz5
    refine wpAny_bind (wpAny_setField_rec hz6 (by simp) fun g7 hz7 hs7 => ?_)
    replace hz7 : ZR g7 z TI TO (rawInt g5.objs.size) f1 := hz7
    refine wpAny_setField_rec hz7 (by simp) fun g8 hz8 hs8 => ?_
    replace hz8 : ZR g8 z TI TO (rawInt g5.objs.size) (.bool false) := hz8
    have up : ∀ c o, c ≠ z → g5.get? c = some o → g8.get? c = some o := fun c o c1 e => hs8.extBut _ _ c1 (hs7.extBut _ _ c1 (Heap.get?_push_of_some _ e))
    have hT8 : IsPair g8 g5.objs.size x y := hs8.extBut _ _ (Nat.ne_of_gt zlt) (hs7.extBut _ _ (Nat.ne_of_gt zlt) (Heap.get?_push_size _ rfl))
    have sz8 : g8.objs.size = g5.objs.size + 1 := by rw [hs8.1, hs7.1, Heap.size_push]
    refine wpAny_pure ⟨_, rfl, ?_⟩
    show Q (.ref g5.objs.size) { s with heap := g8 }
    rw [sz] at hz8 hT8 sz8 ⊢
    exact hQ g8 _ _ (.inr ⟨_, rfl⟩) hz8 ⟨x, y, up _ _ D.TOz hTO5⟩ (h15.at fun o e => up _ o D.i1z e) (h25.at fun o e => up _ o D.i2z e) hT8 sz8 fun c o c1 c2 c3 c4 e => up c o c1 (keep c o c1 c2 c3 c4 e)
  · simp only [Bool.false_eq_true, if_false]
    refine wpAny_bind ?_
    rw [← Array.forIn_toList]
    simp only [List.forIn_cons, List.forIn_nil]
    refine wpAny_bind (wpAny_bind (wpAny_holding ?_))
    show wpAny (model prog w) A (Builtin.SmallTypes.nextOf (.ref i1) >>= _) _ _ _
    refine wpAny_bind (wpAny_nextOf_list_item (s := { s with heap := h0 }) (h1.extBut hs0.extBut D.i1z) (hl1.extBut hs0.extBut D.l1z) hx fun g1 h1' hs1 => wpAny_pure ?_)
    refine wpAny_pure (wpAny_bind (wpAny_bind (wpAny_holding ?_)))
    show wpAny (model prog w) A (Builtin.SmallTypes.nextOf (.ref i2) >>= _) _ _ _
    refine wpAny_bind (wpAny_nextOf_list_item (s := { s with heap := g1 }) ((h2.extBut hs0.extBut D.i2z).extBut hs1.extBut D.i12.symm) ((hl2.extBut hs0.extBut D.l2z).extBut hs1.extBut D.l2i1) hy fun g2 h2' hs2 => wpAny_pure ?_)
    refine wpAny_pure (wpAny_pure ?_)
    refine wpAny_bind (wpAny_newTuple (hsz := show 2 ≤ sizeLine by decide) ?_)
    have sz : g2.objs.size = s.heap.objs.size := by rw [hs2.1, hs1.1, hs0.1]
    have keep : ∀ c o, c ≠ z → c ≠ i1 → c ≠ i2 → s.heap.get? c = some o → g2.get? c = some o := fun c o c1 c2 c3 e => hs2.extBut _ _ c3 (hs1.extBut _ _ c2 (hs0.extBut _ _ c1 e))
    have hz2 : ZR g2 z TI TO f0 (.bool true) := hs2.extBut _ _ D.i2z.symm (hs1.extBut _ _ D.i1z.symm hz0)
    refine wpAny_pure ⟨_, rfl, ?_⟩
    show Q (.ref g2.objs.size) { s with heap := g2.push { cls := .type "tuple", data := .seq #[x, y] } }
    have pz : IsPair (g2.push { cls := .type "tuple", data := .seq #[x, y] }) g2.objs.size x y := Heap.get?_push_size _ rfl
    have ps : (g2.push { cls := .type "tuple", data := .seq #[x, y] }).objs.size = s.heap.objs.size + 1 := by rw [Heap.size_push, sz]
    rw [sz] at pz ⊢
    exact hQ _ f0 (.bool true) hf (Heap.get?_push_of_some _ hz2) ⟨a, b, Heap.get?_push_of_some _ (keep _ _ D.TOz D.TOi1 D.TOi2 hTO)⟩ ((h1'.extBut hs2.extBut D.i12).at fun o e => Heap.get?_push_of_some _ e) (h2'.at fun o e => Heap.get?_push_of_some _ e) pz ps fun c o c1 _ c3 c4 e => Heap.get?_push_of_some _ (keep c o c1 c3 c4 e)
theorem zn_end {z TI TO i1 i2 l1 l2 : Addr} {k1 k2 : Nat} {xs ys : Array Value} {a b f0 f1 : Value} {Q : Fin → Shared → Prop} (hh : A.handled = none) (D : ZipApart z TI TO i1 i2 l1 l2) (hz : ZR s.heap z TI TO f0 f1) (hf : Fo f0) (hTI : IsPair s.heap TI (.ref i1) (.ref i2)) (hTO : IsPair s.heap TO a b)
    (h1 : s.heap.IsListIter i1 l1 k1) (h2 : s.heap.IsListIter i2 l2 k2) (hl1 : s.heap.IsList l1 xs) (hl2 : s.heap.IsList l2 ys) (hend : xs[k1]? = none ∨ ys[k2]? = none)
    (hE : ∀ h' e, (∀ c o, c ≠ z → c ≠ TO → c ≠ i1 → c ≠ i2 → s.heap.get? c = some o → h'.get? c = some o) → (∃ o, h'.get? e = some o ∧ o.cls = .type "StopIteration") → E (.ref e) { s with heap := h' }) :
    wpAny (model prog w) A (Builtin.«zip.__next__» ⟨[.ref z], []⟩) Q E s := by
  show wpAny (model prog w) A (field (.ref z) 2 >>= _) _ _ _
  refine wpAny_bind (wpAny_field hz rfl (x := .bool false) rfl ?_)
  show wpAny (model prog w) A (field (.ref z) 3 >>= _) _ _ _
  refine wpAny_bind (wpAny_field hz rfl (x := .ref TI) rfl (wpAny_bind (wpAny_seqItems hTI rfl ?_)))
  show wpAny (model prog w) A (Builtin.SmallTypes.ownedTupleIsFree (.ref z) >>= _) _ _ _
  refine wpAny_bind (zn_free hz hf ?_ fun h0 hz0 hs0 => ?_)
  · simp only [if_true]
    refine wpAny_bind (wpAny_rule (wpAny_bind (wpAny_field hz rfl (x := .ref TO) rfl (wpAny_bind (wpAny_setField_rec hz (by simp) fun g1 hz1 hs1 => ?_)))))
    replace hz1 : ZR g1 z TI TO .ellipsis f1 := hz1
    refine wpAny_bind ?_
    simp only [List.zipIdx_cons, List.zipIdx_nil, List.forIn_cons, List.forIn_nil]
    refine wpAny_bind (wpAny_bind (wpAny_onRaise ?_))
    show wpAny (model prog w) A (Builtin.SmallTypes.nextOf (.ref i1) >>= _) _ _ _
    cases hx : xs[k1]? with
    | none =>
      refine wpAny_bind (wpAny_nextOf_list_end (s := { s with heap := g1 }) hh (h1.extBut hs1.extBut D.i1z) (hl1.extBut hs1.extBut D.l1z) hx fun g2 e hs2 he => ?_)
      obtain ⟨oe, hoe, hce⟩ := he
      have hz2 : ZR g2 z TI TO .ellipsis f1 := hs2 _ _ D.i1z.symm hz1
      have hez : e ≠ z := fun q => by subst q; rw [hz2] at hoe; cases hoe; simp at hce
      exact wpAny_setField_rec hz2 (by simp) fun g3 _ hs3 => hE g3 e (fun c o c1 _ c3 _ q => hs3.extBut _ _ c1 (hs2 _ _ c3 (hs1.extBut _ _ c1 q))) ⟨oe, hs3.extBut _ _ hez hoe, hce⟩
    | some x =>
      have hy : ys[k2]? = none := hend.resolve_left (by rw [hx]; simp)
      refine wpAny_bind (wpAny_nextOf_list_item (s := { s with heap := g1 }) (h1.extBut hs1.extBut D.i1z) (hl1.extBut hs1.extBut D.l1z) hx fun g2 h12 hs2 => wpAny_pure ?_)
      have hTO2 : IsPair g2 TO a b := hs2.extBut _ _ D.TOi1 (hs1.extBut _ _ D.TOz hTO)
      refine wpAny_bind (wpAny_seqItems hTO2 rfl (wpAny_bind (wpAny_updateSeq_pair (s := { s with heap := g2 }) hTO2 fun g3 hTO3 hs3 => ?_)))
      refine wpAny_bind (wpAny_letGo (wpAny_pure (wpAny_bind (wpAny_bind (wpAny_onRaise ?_)))))
      show wpAny (model prog w) A (Builtin.SmallTypes.nextOf (.ref i2) >>= _) _ _ _
      refine wpAny_bind (wpAny_nextOf_list_end (s := { s with heap := g3 }) hh (((h2.extBut hs1.extBut D.i2z).extBut hs2.extBut D.i12.symm).extBut hs3.extBut D.TOi2.symm) (((hl2.extBut hs1.extBut D.l2z).extBut hs2.extBut D.l2i1).extBut hs3.extBut D.l2TO) hy fun g4 e hs4 he => ?_)
      obtain ⟨oe, hoe, hce⟩ := he
      have hz4 : ZR g4 z TI TO .ellipsis f1 := hs4 _ _ D.i2z.symm (hs3.extBut _ _ D.TOz.symm (hs2.extBut _ _ D.i1z.symm hz1))
      have hez : e ≠ z := fun q => by subst q; rw [hz4] at hoe; cases hoe; simp at hce
      exact wpAny_setField_rec hz4 (by simp) fun g5 _ hs5 => hE g5 e (fun c o c1 c2 c3 c4 q => hs5.extBut _ _ c1 (hs4 _ _ c4 (hs3.extBut _ _ c2 (hs2.extBut _ _ c3 (hs1.extBut _ _ c1 q))))) ⟨oe, hs5.extBut _ _ hez hoe, hce⟩
  · simp only [Bool.false_eq_true, if_false]
    refine wpAny_bind ?_
    rw [← Array.forIn_toList]
    simp only [List.forIn_cons, List.forIn_nil]
    refine wpAny_bind (wpAny_bind (wpAny_holding ?_))
    show wpAny (model prog w) A (Builtin.SmallTypes.nextOf (.ref i1) >>= _) _ _ _
    cases hx : xs[k1]? with
    | none => exact wpAny_bind (wpAny_nextOf_list_end (s := { s with heap := h0 }) hh (h1.extBut hs0.extBut D.i1z) (hl1.extBut hs0.extBut D.l1z) hx fun g2 e hs2 he => hE g2 e (fun c o c1 _ c3 _ q => hs2 _ _ c3 (hs0.extBut _ _ c1 q)) he)
    | some x =>
      have hy : ys[k2]? = none := hend.resolve_left (by rw [hx]; simp)
      refine wpAny_bind (wpAny_nextOf_list_item (s := { s with heap := h0 }) (h1.extBut hs0.extBut D.i1z) (hl1.extBut hs0.extBut D.l1z) hx fun g1 h1' hs1 => wpAny_pure ?_)
      refine wpAny_pure (wpAny_bind (wpAny_bind (wpAny_holding ?_)))
      show wpAny (model prog w) A (Builtin.SmallTypes.nextOf (.ref i2) >>= _) _ _ _
      exact wpAny_bind (wpAny_nextOf_list_end (s := { s with heap := g1 }) hh ((h2.extBut hs0.extBut D.i2z).extBut hs1.extBut D.i12.symm) ((hl2.extBut hs0.extBut D.l2z).extBut hs1.extBut D.l2i1) hy fun g2 e hs2 he => hE g2 e (fun c o c1 _ c3 c4 q => hs2 _ _ c4 (hs1.extBut _ _ c3 (hs0.extBut _ _ c1 q))) he)
/-! ### zip(a, b), a name as target -/
theorem nx_item {z TI TO i1 i2 l1 l2 : Addr} {k1 k2 : Nat} {xs ys : Array Value} {x y a b f0 f1 : Value} {Q : Option Value → Shared → Prop} (D : ZipApart z TI TO i1 i2 l1 l2) (hz : ZR s.heap z TI TO f0 f1) (hf : Fo f0) (hTI : IsPair s.heap TI (.ref i1) (.ref i2)) (hTO : IsPair s.heap TO a b)
    (h1 : s.heap.IsListIter i1 l1 k1) (h2 : s.heap.IsListIter i2 l2 k2) (hl1 : s.heap.IsList l1 xs) (hl2 : s.heap.IsList l2 ys) (hx : xs[k1]? = some x) (hy : ys[k2]? = some y)
    (hQ : ∀ h' g0 g1, Fo g0 → ZR h' z TI TO g0 g1 → (∃ c d, IsPair h' TO c d) → h'.IsListIter i1 l1 (k1 + 1) → h'.IsListIter i2 l2 (k2 + 1) → IsPair h' s.heap.objs.size x y → h'.objs.size = s.heap.objs.size + 1 →
      (∀ c o, c ≠ z → c ≠ TO → c ≠ i1 → c ≠ i2 → s.heap.get? c = some o → h'.get? c = some o) → Q (some (.ref s.heap.objs.size)) { s with heap := h' }) : wpAny (model prog w) A (pyNext (.ref z)) Q E s := by
  have ty : s.TypeIs (.ref z) "zip" := ⟨_, hz, rfl⟩
  unfold pyNext
  exact wpAny_bind (wpAny_attempt (wpAny_callSpecial?_slot (name := Str.ofString "__next__") ty F.slot_zip_next (wpAny_call_entry F.slot_zip_next ty F.entry_zip_next (zn_item D hz hf hTI hTO h1 h2 hl1 hl2 hx hy fun h' g0 g1 b0 b1 b2 b3 b4 b5 b6 b7 => wpAny_pure (hQ h' g0 g1 b0 b1 b2 b3 b4 b5 b6 b7)) (F.args_zip_next_1 _))))
theorem nx_end {z TI TO i1 i2 l1 l2 : Addr} {k1 k2 : Nat} {xs ys : Array Value} {a b f0 f1 : Value} {Q : Option Value → Shared → Prop} (hh : A.handled = none) (D : ZipApart z TI TO i1 i2 l1 l2) (hz : ZR s.heap z TI TO f0 f1) (hf : Fo f0) (hTI : IsPair s.heap TI (.ref i1) (.ref i2)) (hTO : IsPair s.heap TO a b)
    (h1 : s.heap.IsListIter i1 l1 k1) (h2 : s.heap.IsListIter i2 l2 k2) (hl1 : s.heap.IsList l1 xs) (hl2 : s.heap.IsList l2 ys) (hend : xs[k1]? = none ∨ ys[k2]? = none)
    (hQ : ∀ h', (∀ c o, c ≠ z → c ≠ TO → c ≠ i1 → c ≠ i2 → s.heap.get? c = some o → h'.get? c = some o) → Q none { s with heap := h' }) : wpAny (model prog w) A (pyNext (.ref z)) Q E s := by
  have ty : s.TypeIs (.ref z) "zip" := ⟨_, hz, rfl⟩
  unfold pyNext
  refine wpAny_bind (wpAny_attempt (wpAny_callSpecial?_slot (name := Str.ofString "__next__") ty F.slot_zip_next (wpAny_call_entry F.slot_zip_next ty F.entry_zip_next (zn_end hh D hz hf hTI hTO h1 h2 hl1 hl2 hend fun h' e hk he => ?_) (F.args_zip_next_1 _))))
  obtain ⟨o, ho, hc⟩ := he
  exact wpAny_bind (wpAny_isInstance (T := "StopIteration") (b := true) ⟨o, ho, hc⟩ isSubtype_stop (wpAny_pure (hQ _ hk)))
theorem zn_iter {z TI TO : Addr} {f0 f1 : Value} {Q : Value → Shared → Prop} (hz : ZR s.heap z TI TO f0 f1) (h : Q (.ref z) s) : wpAny (model prog w) A (pyIter (.ref z)) Q E s := by
  have ty : s.TypeIs (.ref z) "zip" := ⟨_, hz, rfl⟩
  exact wpAny_pyIter_slot ty F.slot_zip_iter (wpAny_call_entry F.slot_zip_iter ty F.entry_zip_iter (wpAny_pure ⟨_, rfl, "zip", _, ty, F.slot_zip_next.lookup, h⟩) (F.args_zip_iter_1 _))
end
def ItzN (K : PySem.W.Frag) (a b : Addr) : It :=
  ⟨fun i H => ∃ (xs ys : List V) (x y : V), SqL K H a xs ∧ SqL K H b ys ∧ xs[i]? = some x ∧ ys[i]? = some y,
   fun i H v H' => ∃ T o x y, v = .ref T ∧ H T = none ∧ o.dict = none ∧ H' = upd H T (.frz o (.tup [x, y])) ∧ (∀ xs, SqL K H a xs → xs[i]? = some x) ∧ ∀ ys, SqL K H b ys → ys[i]? = some y,
   fun i H => ∃ xs ys : List V, SqL K H a xs ∧ SqL K H b ys ∧ (xs.length ≤ i ∨ ys.length ≤ i)⟩
theorem turn_zipN {P : Program} {w : World} {K : PySem.W.Frag} {nm : Str} {tpos : Pos} {a b z TI TO i1 i2 : Addr} (D : ZipApart z TI TO i1 i2 a b) :
    Turn P w K (.Name nm tpos) (ItzN K a b) [z, TI, TO, i1, i2] z (fun i h => (∃ f0 f1, Fo f0 ∧ ZR h z TI TO f0 f1) ∧ IsPair h TI (.ref i1) (.ref i2) ∧ (∃ x y, IsPair h TO x y) ∧ h.IsListIter i1 a i ∧ h.IsListIter i2 b i) where
  mem := by simp
  obj := fun i h ⟨⟨f0, f1, _, hz⟩, hTI, ⟨x, y, hTO⟩, ⟨o1, e1, _, d1⟩, ⟨o2, e2, _, d2⟩⟩ c hc => by
    have e' : c = z ∨ c = TI ∨ c = TO ∨ c = i1 ∨ c = i2 := by simpa using hc
    rcases e' with q | q | q | q | q <;> rw [q]
    · exact ⟨_, hz, fun v q => nomatch q⟩
    · exact ⟨_, hTI, fun v q => nomatch q⟩
    · exact ⟨_, hTO, fun v q => nomatch q⟩
    · exact ⟨o1, e1, fun v q => by rw [d1] at q; cases q⟩
    · exact ⟨o2, e2, fun v q => by rw [d2] at q; cases q⟩
  keep := fun i h h' ⟨⟨f0, f1, hf, hz⟩, hTI, ⟨x, y, hTO⟩, h1, h2⟩ k => ⟨⟨f0, f1, hf, k z (by simp) _ hz⟩, k TI (by simp) _ hTI, ⟨x, y, k TO (by simp) _ hTO⟩, h1.at fun o q => k i1 (by simp) o q, h2.at fun o q => k i2 (by simp) o q⟩
  item := by
    intro X hP hw hK hc i pins s σ H E I hf st hg
    subst hP hw hK
    obtain ⟨⟨f0, f1, ho, hz⟩, hTI, ⟨x0, y0, hTO⟩, h1, h2⟩ := st
    obtain ⟨xs, ys, x, y, hqx, hqy, hx, hy⟩ := hg
    obtain ⟨its, rv, p, _⟩ := I.list hqx
    obtain ⟨its2, rv2, p2, _⟩ := I.list hqy
    obtain ⟨u, hu, ru⟩ := rv.get hx
    obtain ⟨u2, hu2, ru2⟩ := rv2.get hy
    refine nx_item D hz ho hTI hTO h1 h2 p.isList p2.isList (x := u) (y := u2) (by simpa using hu) (by simpa using hu2) fun h' g0 g1 g2 z' TO' h1' h2' hT hsz hk => ?_
    refine ⟨_, rfl, ?_⟩
    show wpAny (model X.prog X.w) X.A (pure ()) _ _ _
    refine wpAny_pure ?_
    have new : ObjOk X.prog X.w (upd H s.heap.objs.size (.frz { cls := .type "tuple", data := .seq #[u, u2] } (.tup [x, y]))) h' s.heap.objs.size (.frz { cls := .type "tuple", data := .seq #[u, u2] } (.tup [x, y])) := ⟨hT, by show 2 ≤ sizeLine; decide, [u, u2], .cons ru (.cons ru2 .nil), ⟨_, hT, rfl, _, rfl⟩⟩
    have I1 : Inv X pins σ (upd H s.heap.objs.size (.frz { cls := .type "tuple", data := .seq #[u, u2] } (.tup [x, y]))) { s with heap := h' } :=
      I.turnedNew (t' := s.toks) (ch := [z, TI, TO, i1, i2]) (fun c o hb q => hk c o (fun q' => hb (by simp [q'])) (fun q' => hb (by simp [q'])) (fun q' => hb (by simp [q'])) (fun q' => hb (by simp [q'])) q) hf (Nat.le_refl _) new
    refine ⟨.ref s.heap.objs.size, _, I1, rfl, ⟨_, _, x, y, rfl, I.hok.fresh (Nat.le_refl _), rfl, rfl, fun l hl => by rw [I.list_inj hl hqx]; exact hx, fun l hl => by rw [I.list_inj hl hqy]; exact hy⟩, ⟨⟨g0, g1, g2, z'⟩, hk _ _ D.TIz D.TITO D.TIi1 D.TIi2 hTI, TO', h1', h2'⟩, fun c hcm => ?_⟩
    have hlt : c < s.heap.objs.size := by
      have e' : c = z ∨ c = TI ∨ c = TO ∨ c = i1 ∨ c = i2 := by simpa using hcm
      rcases e' with q | q | q | q | q <;> rw [q]
      · exact Heap.lt_size hz
      · exact Heap.lt_size hTI
      · exact Heap.lt_size hTO
      · obtain ⟨_, e1, _⟩ := h1; exact Heap.lt_size e1
      · obtain ⟨_, e2, _⟩ := h2; exact Heap.lt_size e2
    rw [upd_ne (Nat.ne_of_lt hlt)]
    exact (hf c hcm).1
  done := by
    intro X hP hw hK hc i pins s σ H E I hf st hg
    subst hP hw hK
    obtain ⟨⟨f0, f1, ho, hz⟩, hTI, ⟨x0, y0, hTO⟩, h1, h2⟩ := st
    obtain ⟨xs, ys, hqx, hqy, hend⟩ := hg
    obtain ⟨its, rv, p, _⟩ := I.list hqx
    obtain ⟨its2, rv2, p2, _⟩ := I.list hqy
    have l1 := rv.length
    have l2 := rv2.length
    have he : its.toArray[i]? = none ∨ its2.toArray[i]? = none := hend.imp (fun q => by simp; omega) fun q => by simp; omega
    exact nx_end (I.ok.hd hc) D hz ho hTI hTO h1 h2 p.isList p2.isList he fun h' hk => ⟨rfl, I.turnedL (t' := s.toks) (ch := [z, TI, TO, i1, i2]) (fun c o hb q => hk c o (fun q' => hb (by simp [q'])) (fun q' => hb (by simp [q'])) (fun q' => hb (by simp [q'])) (fun q' => hb (by simp [q'])) q) hf⟩
  self := fun A i s Q E ⟨⟨f0, f1, _, hz⟩, _⟩ h => zn_iter hz h
def iZipN (K : PySem.W.Frag) (ta : TA) : TI := fun σ H R => ta σ H fun vs H1 => ∃ a b xs ys, vs = [.ref a, .ref b] ∧ SqL K H1 a xs ∧ SqL K H1 b ys ∧ R (ItzN K a b) H1
theorem pi_zipN {X : Cx} {e e2 : Expr} {ta : TA} {p pos tpos : Pos} {nm : Str} (hg : Gl X "zip") (hm : X.mg "zip" = none) (ha : PA X [e, e2] ta) (hs : starEach [e, e2] X.env = (false, eval e X.env) :: starEach [e2] X.env := by rfl) (hpl : (backTo pos (starEach [e2] X.env)).any (·.1) = false := by rfl) :
    PI X (.Name nm tpos) (.Call (.Name "zip" p) [e, e2] [] pos) (iZipN X.K ta) := by
  refine ⟨fun pins s σ H R I h => Call_ (ld_blt I hg hm PyProof.Rows.boot_zip (PyProof.Rows.callWith_type1 (thn (ha.run pos pins s σ H _ I h) fun us s1 ⟨vs, H1, I1, r1, q1⟩ => ?_) hs hpl))⟩
  obtain ⟨a, b, xs, ys, rfl, hqx, hqy, q⟩ := q1
  cases r1 with
  | cons r rr =>
    cases rr with
    | cons r' rr =>
      cases rr; cases r; cases r'
      obtain ⟨its, rv, p1, _⟩ := I1.list hqx
      obtain ⟨its2, rv2, p2, _⟩ := I1.list hqy
      refine call_zip_2 p1.isList p2.isList fun h' hz hTI hTO h1 h2 hsz hk => wpAny_pyIter_zip hz ?_
      refine ⟨s1.heap.objs.size + 4, [s1.heap.objs.size + 4, s1.heap.objs.size + 2, s1.heap.objs.size + 3, s1.heap.objs.size, s1.heap.objs.size + 1], _, _, H1, rfl, I1.kept (t' := s1.toks) hk, turn_zipN (PySem.W.ktu_apart s1.heap.objs.size a b p1.lt p2.lt), ⟨⟨.none, .bool false, .inl rfl, hz⟩, hTI, ⟨_, _, hTO⟩, h1, h2⟩, fun c hcm => ?_, q⟩
      have hle : s1.heap.objs.size ≤ c := by
        have e' : c = s1.heap.objs.size + 4 ∨ c = s1.heap.objs.size + 2 ∨ c = s1.heap.objs.size + 3 ∨ c = s1.heap.objs.size ∨ c = s1.heap.objs.size + 1 := by simpa using hcm
        rcases e' with q' | q' | q' | q' | q' <;> rw [q'] <;> first | exact Nat.le_add_right _ _ | exact Nat.le_refl _
      exact I1.fpOk hle (I1.hok.fresh hle)

/-! ### enumerate(t), t a tuple -/
section
theorem en_new (l : Addr) (items : Array Value) : Meets (Builtin.«enumerate.__new__» ⟨[.type "enumerate", .ref l], []⟩) (fun _ R s => s.heap.IsTuple l items ∧
      R (.ok (.ret (.ref (s.heap.push { cls := .type "tuple_iterator", data := .fields #[.ref l, .int 0 0] }).objs.size))) { s with heap := (s.heap.push { cls := .type "tuple_iterator", data := .fields #[.ref l, .int 0 0] }).push { cls := .type "enumerate", data := .fields #[.none, .bool false, .ref s.heap.objs.size, rawInt 0, .none, .none] } }) :=
  .of_wp fun prog w A R s h => by
    obtain ⟨hp, g, d, tk, os⟩ := s
    obtain ⟨h1, h⟩ := h
    have hsub := sub_enumerate
    have q1 : ∀ {A' : Around} {E : Value → Shared → Prop} {Q : Value → Shared → Prop}, Q (.ref hp.objs.size) ⟨hp.push { cls := .type "tuple_iterator", data := .fields #[.ref l, .int 0 0] }, g, d, tk, os⟩ → wpAny (model prog w) A' (pyIter (.ref l)) Q E ⟨hp, g, d, tk, os⟩ := fun q => (begins_tuple l items).iter prog w _ _ ⟨hp, g, d, tk, os⟩ _ h1 q
    wp_walk using q1
    refine wpAny_stack_any fun st => wpAny_pure ?_
    split
    · rename_i c _ _ _ _ _
      cases (c == Value.type "enumerate") <;> (wp_walk using q1) <;> exact ⟨_, rfl, h⟩
    · wp_walk using q1
      exact ⟨_, rfl, h⟩
end
section
variable {prog : Program} {w : World} {A : Around} {E : Value → Shared → Prop} {s : Shared}
theorem call_enT {l : Addr} {items : Array Value} {Q : Value → Shared → Prop} (hL : s.heap.IsTuple l items) (h : ∀ h', IsEnum h' (s.heap.objs.size + 1) s.heap.objs.size 0 .none → h'.IsTupleIter s.heap.objs.size l 0 → (∀ b o, s.heap.get? b = some o → h'.get? b = some o) → Q (.ref (s.heap.objs.size + 1)) { s with heap := h' }) :
    wpAny (model prog w) A (call (.type "enumerate") [.ref l]) Q E s := by
  refine callType_new F.called_enumerate (by decide) (F.typeCall_enumerate_1 _) (F.newCall_enumerate_1 _) (fun obj => F.args_object_init_2 obj _) F.entry_enumerate_new (en_new l items) ⟨hL, ?_⟩
  have hz : (s.heap.push { cls := .type "tuple_iterator", data := .fields #[.ref l, .int 0 0] }).objs.size = s.heap.objs.size + 1 := Heap.size_push ..
  have he := Heap.get?_push_size (s.heap.push { cls := .type "tuple_iterator", data := .fields #[.ref l, .int 0 0] }) (o := { cls := .type "enumerate", data := .fields #[.none, .bool false, .ref s.heap.objs.size, rawInt 0, .none, .none] }) rfl
  show _ ∧ _
  rw [hz] at he ⊢
  exact ⟨⟨_, he, rfl⟩, h _ he ⟨_, Heap.get?_push_of_some _ (Heap.get?_push_size _ rfl), rfl, rfl⟩ fun b o x => Heap.get?_push_of_some _ (Heap.get?_push_of_some _ x)⟩
end
def IteT (K : PySem.W.Frag) (a : Addr) : It :=
  ⟨fun i H => ∃ (xs : List V) (x : V), SqT K H a xs ∧ xs[i]? = some x, fun i H v H' => ∃ T x, v = .ref T ∧ H T = none ∧ H' = upd H T (.tup [.int (i : Nat), x]) ∧ ∀ xs, SqT K H a xs → xs[i]? = some x, fun i H => ∃ xs : List V, SqT K H a xs ∧ xs.length = i⟩
theorem turn_enT {P : Program} {w : World} {K : PySem.W.Frag} {elts : List Expr} {kk : Nat} {tpos : Pos} (a e it : Addr) :
    Turn P w K (.Tuple elts kk tpos) (IteT K a) [e, it] e (fun i h => (∃ old, IsEnum h e it ((i : Nat) : Int) old) ∧ h.IsTupleIter it a i ∧ e ≠ it) where
  mem := by simp
  obj := fun i h ⟨⟨old, he⟩, ⟨o, ho, hc, hd⟩, _⟩ b hb => by
    have e' : b = e ∨ b = it := by simpa using hb
    rcases e' with z | z <;> rw [z]
    · exact ⟨_, he, fun v q => nomatch q⟩
    · exact ⟨o, ho, fun v q => by rw [hd] at q; cases q⟩
  keep := fun i h h' ⟨⟨old, he⟩, hi, hne⟩ k => ⟨⟨old, k e (by simp) _ he⟩, hi.at fun o q => k it (by simp) o q, hne⟩
  item := by
    intro X hP hw hK hc i pins s σ H E I hf st hg
    subst hP hw hK
    obtain ⟨⟨old, he⟩, hit, hne⟩ := st
    obtain ⟨xs, x, hq, hx⟩ := hg
    obtain ⟨its, rv, p, hz⟩ := I.tuple hq
    obtain ⟨u, hu, ru⟩ := rv.get hx
    have pt : s.heap.IsTuple a its.toArray := p
    obtain ⟨oa, ga, ca, na, da⟩ := pt
    obtain ⟨oi, gi, ci, di⟩ := hit
    have nae : a ≠ e := fun z => by rw [z] at ga; rw [he] at ga; cases ga; simp at ca
    have nai : a ≠ it := fun z => by rw [z, gi] at ga; cases ga; rw [ci] at ca; simp at ca
    have hel : e < s.heap.objs.size := Heap.lt_size he
    have hil : it < s.heap.objs.size := Heap.lt_size gi
    have hlt : i < its.toArray.size := by have := (List.getElem?_eq_some_iff.mp hu).1; simpa using this
    refine wpAny_pyNext_enum_itemD (Draws.tuple (A := X.A.in1) (I.ok.hd hc) it a nai its.toArray) he ⟨⟨oi, gi, ci, di⟩, ⟨oa, ga, ca, na, da⟩⟩ hlt hne (by simp [hne, Ne.symm nae]) fun u' h' tk hP' ho st' hT hsz hk => ?_
    have eu : u' = u := by
      have z : its.toArray[i]? = some u := by simpa using hu
      rw [z] at hP'; cases hP'; rfl
    subst eu
    refine ⟨_, rfl, wpAny_letOwnedTupleGo_enum (s := { s with heap := h', toks := tk + 1 }) ho fun h'' he' sb => ?_⟩
    have hT2 : h''.get? s.heap.objs.size = some { cls := .type "tuple", data := .seq #[.int i tk, u'] } := (sb.2 _ (Nat.ne_of_gt hel)).trans hT
    have new : ObjOk X.prog X.w (upd H s.heap.objs.size (.tup [.int (i : Nat), x])) h'' s.heap.objs.size (.tup [.int (i : Nat), x]) := ⟨by show 2 ≤ sizeLine; decide, [.int i tk, u'], .cons ⟨_, rfl⟩ (.cons ru .nil), ⟨_, hT2, rfl, _, rfl⟩⟩
    have I1 : Inv X pins σ (upd H s.heap.objs.size (.tup [.int (i : Nat), x])) { s with heap := h'', toks := tk + 1 } := I.turnedNew (ch := [e, it]) (fun b ob hb q => (sb.2 b (fun z => hb (by simp [z]))).trans (hk b ob (fun z => hb (by simp [z])) (fun z => hb (by simp [z])) q)) hf (Nat.le_refl _) new
    refine ⟨.ref s.heap.objs.size, _, I1, rfl, ⟨_, x, rfl, I.hok.fresh (Nat.le_refl _), rfl, fun ys hy => ?_⟩, ⟨⟨u', ?_⟩, st'.1.at fun o q => (sb.2 it (Ne.symm hne)).trans q, hne⟩, fun b hb => ?_⟩
    · rw [I.tuple_inj hy hq]; exact hx
    · have e1 : ((i + 1 : Nat) : Int) = (i : Int) + 1 := by omega
      rw [e1]; exact he'
    · have hb' : b < s.heap.objs.size := by
        have e' : b = e ∨ b = it := by simpa using hb
        rcases e' with z | z <;> rw [z]
        · exact hel
        · exact hil
      rw [upd_ne (Nat.ne_of_lt hb')]
      exact (hf b hb).1
  done := by
    intro X hP hw hK hc i pins s σ H E I hf st hg
    subst hP hw hK
    obtain ⟨⟨old, he⟩, hit, hne⟩ := st
    obtain ⟨xs, hq, hx⟩ := hg
    obtain ⟨its, rv, p, hz⟩ := I.tuple hq
    obtain ⟨f0, f1, f2, f3, f4, f5⟩ := hf it (by simp)
    have pt : s.heap.IsTuple a its.toArray := p
    obtain ⟨oa, ga, ca, na, da⟩ := pt
    obtain ⟨oi, gi, ci, di⟩ := hit
    have nai : a ≠ it := fun z => by rw [z, gi] at ga; cases ga; rw [ci] at ca; simp at ca
    have hn : its.toArray.size = i := by rw [List.size_toArray, ← rv.length, hx]
    exact wpAny_pyNext_enum_endD (Draws.tuple (A := X.A.in1) (I.ok.hd hc) it a nai its.toArray) he (by rw [hn]; exact ⟨⟨oi, gi, ci, di⟩, ⟨oa, ga, ca, na, da⟩⟩) fun h' eb => ⟨rfl, I.turned (t' := s.toks) (fun b o hb q => eb b o hb q) f0 f1 f3 f4 f5⟩
  self := fun A i s Q E ⟨⟨_, he⟩, _⟩ h => wpAny_pyIter_enum he h
variable {J : Type}
def iZpN (fa fb : Ev J) (m : Sd) (j : J) (P : List D → J → Prop) (E : XP J) : Prop := fa m j (fun x j1 => fb m j1 (fun y j2 => ∃ xs ys, x = .lst xs ∧ y = .lst ys ∧ P (zipD xs ys) j2) E) E
instance {fa fb : Ev J} [ha : MoE fa] [hb : MoE fb] : MoA (iZpN fa fb) := ⟨fun h q x => ha.mo h (fun _ _ h1 => hb.mo h1 (fun _ _ ⟨xs, ys, e1, e2, p⟩ => ⟨xs, ys, e1, e2, q _ _ p⟩) x) x⟩
section
variable {S : Js J} {B : Bs} {M : Nat → Bool} {W : WX} {X : Cx} {a b : Expr} {pos p tpos : Pos} {fa fb : Ev J} {nm : Str}
theorem i_zipN (hK : X.K = S.K) (hm : X.mg "zip" = none) (ha : PE X a (rdE S B M W .clean fa)) (hb : PE X b (rdE S B M W .clean fb)) (hg : Gl X "zip" := by rfl) (hs : starEach [a, b] X.env = (false, eval a X.env) :: starEach [b] X.env := by rfl) (hs2 : starEach [b] X.env = [(false, eval b X.env)] := by rfl) (hpl : (backTo pos (starEach [b] X.env)).any (·.1) = false := by rfl) :
    PI X (.Name nm tpos) (.Call (.Name "zip" p) [a, b] [] pos) (rdI S B M W true false (iZpN fa fb)) :=
  PI.imp (pi_zipN hg hm (pa_cons ha (pa_cons hb pa_nil hs2) hs) hs hpl) fun r H R ⟨g, m, j, P, E, ok, hf, q, xo⟩ => by
    refine ⟨g, m, j, _, E, ok, hf, fun x j1 g1 v H1 h1 l1 ok1 w => ⟨g1, m, _, _, E, ok1, h1, fun y j2 g2 v2 H2 ⟨xs, ys, e1, e2, p⟩ l2 ok2 w2 => ?_, xo.le l1.f⟩, xo⟩
    subst e1 e2
    obtain ⟨a, vs, rfl, ha, ra⟩ := lst_of (w.le l2)
    obtain ⟨b, ws, rfl, hb, rb⟩ := lst_of w2
    have fh := ok2.b.fg.trans ok2.b.gh
    refine ⟨a, b, vs, ws, rfl, .of (fh _ _ ha), .of (fh _ _ hb), q _ _ g2 H2 _ p (l1.trans l2) ok2 ?_⟩
    unfold WalkD
    rw [zipD_length, ra.length, rb.length]
    refine ⟨fun i H hi s => ?_, fun H s => ⟨vs, ws, .of (s _ _ ha), .of (s _ _ hb), by omega⟩, fun i H x H' hi s y => ?_⟩
    · have i1 : i < vs.length := by omega
      have i2 : i < ws.length := by omega
      exact ⟨vs, ws, vs[i], ws[i], .of (s _ _ ha), .of (s _ _ hb), by simp [i1], by simp [i2]⟩
    · obtain ⟨T, o, x1, y1, e1, e2, e0, e3, e4, e5⟩ := y
      obtain ⟨d1, h3, h4⟩ := ra.get' (e4 vs (.of (s _ _ ha)))
      obtain ⟨d2, h5, h6⟩ := rb.get' (e5 ws (.of (s _ _ hb)))
      exact ⟨_, zipD_get h3 h5, .inr (.inr ⟨T, o, _, _, e1, e2, e0, e3, rfl, .cons h4 (.cons h6 .nil)⟩)⟩
variable {m : Sd} {j : J} {PA : List D → J → Prop} {E : XP J}
@[simp ↓] theorem a_izn : iZpN fa fb m j PA E = fa m j (fun x j1 => fb m j1 (fun y j2 => ∃ xs ys, x = .lst xs ∧ y = .lst ys ∧ PA (zipD xs ys) j2) E) E := rfl
end
/-! ### enumerate(x), x a list or a tuple -/
def iEnB (K : PySem.W.Frag) (ta : TA) : TI := fun σ H R => ta σ H fun vs H1 => ∃ a xs, vs = [.ref a] ∧ ((SqL K H1 a xs ∧ R (Ite K a) H1) ∨ (SqT K H1 a xs ∧ R (IteT K a) H1))
theorem pi_enB {X : Cx} {e : Expr} {ta : TA} {p pos tpos : Pos} {elts : List Expr} {kk : Nat} (hg : Gl X "enumerate") (hm : X.mg "enumerate" = none) (ha : PA X [e] ta) (hs : starEach [e] X.env = [(false, eval e X.env)] := by rfl) :
    PI X (.Tuple elts kk tpos) (.Call (.Name "enumerate" p) [e] [] pos) (iEnB X.K ta) := by
  refine ⟨fun pins s σ H R I h => Call_ (ld_blt I hg hm boot_enumerate (PyProof.Rows.callWith_type1 (thn (ha.run pos pins s σ H _ I h) fun us s1 ⟨vs, H1, I1, r1, q1⟩ => ?_) hs rfl))⟩
  obtain ⟨a, xs, rfl, q1⟩ := q1
  have fp : ∀ b ∈ [s1.heap.objs.size + 1, s1.heap.objs.size], FpOk X pins H1 b := fun b hb => by
    have hle : s1.heap.objs.size ≤ b := by
      have e' : b = s1.heap.objs.size + 1 ∨ b = s1.heap.objs.size := by simpa using hb
      rcases e' with z | z <;> rw [z] <;> first | exact Nat.le_add_right _ _ | exact Nat.le_refl _
    exact I1.fpOk hle (I1.hok.fresh hle)
  cases r1 with
  | cons r rr =>
    cases rr; cases r
    rcases q1 with ⟨hq, q⟩ | ⟨hq, q⟩
    · obtain ⟨its, rv, p', hz⟩ := I1.list hq
      refine call_enumerate_list p'.isList fun h' he hit hsz hk => wpAny_pyIter_enum he ?_
      exact ⟨s1.heap.objs.size + 1, [s1.heap.objs.size + 1, s1.heap.objs.size], _, _, H1, rfl, I1.kept (t' := s1.toks) hk, turn_enum a (s1.heap.objs.size + 1) s1.heap.objs.size, ⟨⟨.none, he⟩, hit, Nat.succ_ne_self _⟩, fp, q⟩
    · obtain ⟨its, rv, p', hz⟩ := I1.tuple hq
      refine call_enT (show s1.heap.IsTuple a its.toArray from p') fun h' he hit hk => wpAny_pyIter_enum he ?_
      exact ⟨s1.heap.objs.size + 1, [s1.heap.objs.size + 1, s1.heap.objs.size], _, _, H1, rfl, I1.kept (t' := s1.toks) hk, turn_enT a (s1.heap.objs.size + 1) s1.heap.objs.size, ⟨⟨.none, he⟩, hit, Nat.succ_ne_self _⟩, fp, q⟩
def enO : D → Option (List D)
  | .lst xs => some (enumD xs)
  | .tup xs => some (enumD xs)
  | _ => none
def iEnmB (f : Ev J) (m : Sd) (j : J) (P : List D → J → Prop) (E : XP J) : Prop := f m j (fun d j1 => ∃ zs, enO d = some zs ∧ P zs j1) E
instance {f : Ev J} [ha : MoE f] : MoA (iEnmB f) := ⟨fun h q x => ha.mo h (fun _ _ ⟨b, e, p⟩ => ⟨b, e, q _ _ p⟩) x⟩
section
variable {S : Js J} {B : Bs} {M : Nat → Bool} {W : WX} {X : Cx} {a : Expr} {pos p tpos : Pos} {fa : Ev J} {elts : List Expr} {kk : Nat}
theorem i_enB (hK : X.K = S.K) (hm : X.mg "enumerate" = none) (ha : PE X a (rdE S B M W .clean fa)) (hg : Gl X "enumerate" := by rfl) (hs : starEach [a] X.env = [(false, eval a X.env)] := by rfl) :
    PI X (.Tuple elts kk tpos) (.Call (.Name "enumerate" p) [a] [] pos) (rdI S B M W true true (iEnmB fa)) :=
  PI.imp (pi_enB hg hm (pa_cons ha pa_nil hs) hs) fun r H R ⟨g, m, j, P, E, ok, hf, q, xo⟩ => by
    refine ⟨g, m, j, _, E, ok, hf, fun d j1 g1 v H1 ⟨zs, ed, p⟩ l1 ok1 w => ?_, xo⟩
    unfold enO at ed
    split at ed
    · cases ed
      obtain ⟨a, vs, rfl, ha, ra⟩ := lst_of w
      refine ⟨a, vs, rfl, .inl ⟨.of ((ok1.b.fg.trans ok1.b.gh) _ _ ha), q _ _ g1 H1 _ p l1 ok1 ?_⟩⟩
      unfold WalkD
      rw [enumD_length, ra.length]
      refine (walk_enum (K := X.K) (a := a) (xs := vs)).mono (fun H s => .of (s _ _ ha)) fun i H x H' hi _ y => ?_
      obtain ⟨T, x1, y1, e1, e2, e3, e4, e5⟩ := y
      obtain ⟨d, h2, h3⟩ := ra.get' e5
      cases e4
      exact ⟨_, enumD_get h2, .inr (.inl ⟨rfl, T, _, _, e1, e2, e3, rfl, .cons (.int _) (.cons h3 .nil)⟩)⟩
    · cases ed
      obtain ⟨a, vs, rfl, ha, ra⟩ := tup_of w
      have sq : ∀ H, Same (hp true g1) H → SqT X.K H a vs := fun H s => by rw [hK]; exact sqT_same s ha.t
      refine ⟨a, vs, rfl, .inr ⟨sq _ (ok1.b.fg.trans ok1.b.gh), q _ _ g1 H1 _ p l1 ok1 ?_⟩⟩
      unfold WalkD
      rw [enumD_length, ra.length]
      refine ⟨fun i H hi s => ⟨vs, vs[i], sq H s, by simp [hi]⟩, fun H s => ⟨vs, sq H s, rfl⟩, fun i H x H' hi s y => ?_⟩
      obtain ⟨T, x1, e1, e2, e3, e4⟩ := y
      obtain ⟨d, h2, h3⟩ := ra.get' (e4 vs (sq H s))
      exact ⟨_, enumD_get h2, .inr (.inl ⟨rfl, T, _, _, e1, e2, e3, rfl, .cons (.int _) (.cons h3 .nil)⟩)⟩
    · cases ed
variable {m : Sd} {j : J} {PA : List D → J → Prop} {E : XP J}
@[simp ↓] theorem a_ienb : iEnmB fa m j PA E = fa m j (fun d j1 => ∃ zs, enO d = some zs ∧ PA zs j1) E := rfl
@[simp] theorem en_l {xs : List D} : enO (.lst xs) = some (enumD xs) := rfl
@[simp] theorem en_t {xs : List D} : enO (.tup xs) = some (enumD xs) := rfl
end
end Mp

/-! NV: a zip of any two iterators, gathered into a list. -/
namespace Mp
open PySem PySem.Spec L2
open PyProof.Rows hiding St
section
variable {prog : Program} {w : World} {A : Around} {E : Value → Shared → Prop} {s : Shared}
theorem nx_rng_item {it : Addr} {x left step : Int} {Q : Value → Shared → Prop} (hit : IsRangeIter s.heap it x left step) (hleft : 0 < left)
    (hQ : ∀ h', IsRangeIter h' it (x + step) (left - 1) step → Heap.SameBut it s.heap h' → Q (.int x s.toks) { s with heap := h', toks := s.toks + 1 }) : wpAny (model prog w) A (Builtin.SmallTypes.nextOf (.ref it)) Q E s := by
  have hT : s.TypeIs (.ref it) "range_iterator" := ⟨_, hit, rfl⟩
  unfold Builtin.SmallTypes.nextOf
  refine wpAny_bind (wpAny_callSpecial?_slot (name := Str.ofString "__next__") hT F.slot_range_iterator_next
    (call_meets F.slot_range_iterator_next hT F.entry_range_iterator_next (F.args_range_iterator_next_1 _) (AutoRange.range_iterator___next___range_iterator_1 it x left step (by omega)) ⟨hit, ?_⟩))
  exact wpAny_pure (hQ _ (Heap.get?_update_self _ (Heap.get?_update_self _ hit rfl) rfl) ((Heap.SameBut.update ..).trans (Heap.SameBut.update ..)))
theorem nx_rng_end {it : Addr} {x left step : Int} {Q : Value → Shared → Prop} (hh : A.handled = none) (hit : IsRangeIter s.heap it x left step) (hleft : left ≤ 0)
    (hE : ∀ h' e, Heap.ExtBut it s.heap h' → (∃ o, h'.get? e = some o ∧ o.cls = .type "StopIteration") → E (.ref e) { s with heap := h' }) : wpAny (model prog w) A (Builtin.SmallTypes.nextOf (.ref it)) Q E s := by
  have hT : s.TypeIs (.ref it) "range_iterator" := ⟨_, hit, rfl⟩
  unfold Builtin.SmallTypes.nextOf
  refine wpAny_bind (wpAny_callSpecial?_slot (name := Str.ofString "__next__") hT F.slot_range_iterator_next
    (wpAny_call_entry F.slot_range_iterator_next hT F.entry_range_iterator_next ?_ (F.args_range_iterator_next_1 _)))
  show wpAny _ _ (field (.ref it) 0 >>= _) _ _ s
  refine wpAny_bind (wpAny_field hit rfl (x := rawInt x) rfl ?_)
  show wpAny _ _ (field (.ref it) 1 >>= _) _ _ s
  refine wpAny_bind (wpAny_field hit rfl (x := rawInt left) rfl ?_)
  show wpAny _ _ (field (.ref it) 2 >>= _) _ _ s
  refine wpAny_bind (wpAny_field hit rfl (x := rawInt step) rfl ?_)
  show wpAny _ _ (if left ≤ 0 then _ else _) _ _ s
  rw [if_pos hleft]
  refine wpAny_bind (wpAny_rule ?_)
  refine wpAny_bind ?_
  show wpAny _ _ (newExc (.type "StopIteration") [] >>= _) _ _ _
  refine wpAny_bind ?_
  simp only [newExc, newTuple]
  refine wpAny_bind (wpAny_newObj_type ?_ (by size_fits))
  refine wpAny_bind (m := firstArgMember _ _) (wpAny_of_eq (a := Value.none) (by first | rfl | (simp only [firstArgMember]; rfl)) ?_)
  refine wpAny_newObj_type ?_ (by size_fits)
  simp only [raiseNew]
  refine wpAny_bind (wpAny_handled ?_)
  first | rw [show A.in1.handled = none from hh] | rw [hh]
  refine wpAny_bind (wpAny_pure (wpAny_throw ?_))
  exact hE _ _ (((Heap.ExtBut.refl it s.heap).push _).push _) ⟨_, Heap.get?_push_size _ rfl, rfl⟩
theorem dr_rng (hh : A.handled = none) (it : Addr) (n : Nat) : Draws prog w A it [it] n (fun i v => ∃ t, v = .int (i : Nat) t) (fun i h => IsRangeIter h it (i : Nat) ((n : Int) - (i : Nat)) 1) where
  live := fun _ _ st => ⟨_, st⟩
  frame := fun _ _ _ st hk => hk it (by simp) _ st
  item := fun i s Q E hi st hQ => by
    refine nx_rng_item st (by omega) fun h' hit' hs' => ?_
    refine hQ _ h' _ ⟨_, rfl⟩ ?_ hs'
    have e1 : ((i + 1 : Nat) : Int) = (i : Int) + 1 := by omega
    have e2 : (n : Int) - ((i : Int) + 1) = (n : Int) - i - 1 := by omega
    show IsRangeIter h' it ((i + 1 : Nat) : Int) ((n : Int) - ((i + 1 : Nat) : Int)) 1
    rw [e1, e2]; exact hit'
  done := fun s Q E st hE => nx_rng_end hh st (by omega) hE
end
section
variable {prog : Program} {w : World} {A : Around} {E : Value → Shared → Prop} {s : Shared} {z TI TO i1 i2 : Addr} {fp1 fp2 : List Addr} {n1 n2 i : Nat} {P1 P2 : Nat → Value → Prop} {St1 St2 : Nat → Heap → Prop} {a b f0 f1 : Value}
theorem zd_item {Q : Value → Shared → Prop} (S : ZipSep2 z TI TO i1 i2 fp1 fp2) (D1 : Draws prog w A i1 fp1 n1 P1 St1) (D2 : Draws prog w A i2 fp2 n2 P2 St2) (hz : ZR s.heap z TI TO f0 f1) (hf : Fo f0) (hTI : IsPair s.heap TI (.ref i1) (.ref i2)) (hTO : IsPair s.heap TO a b)
    (st1 : St1 i s.heap) (st2 : St2 i s.heap) (hlt1 : i < n1) (hlt2 : i < n2)
    (hQ : ∀ x y h' tk g0 g1, P1 i x → P2 i y → Fo g0 → ZR h' z TI TO g0 g1 → (∃ c d, IsPair h' TO c d) → St1 (i + 1) h' → St2 (i + 1) h' → IsPair h' s.heap.objs.size x y → h'.objs.size = s.heap.objs.size + 1 →
      (∀ c o, c ≠ z → c ≠ TO → c ≠ i1 → c ≠ i2 → s.heap.get? c = some o → h'.get? c = some o) → Q (.ref s.heap.objs.size) { s with heap := h', toks := tk }) :
    wpAny (model prog w) A (Builtin.«zip.__next__» ⟨[.ref z], []⟩) (fun fin s' => ∃ v, fin = .done (.ret v) ∧ Q v s') E s := by
  obtain ⟨hp, g, d, tk0, os⟩ := s
  show wpAny (model prog w) A (field (.ref z) 2 >>= _) _ _ _
  refine wpAny_bind (wpAny_field hz rfl (x := .bool false) rfl ?_)
  show wpAny (model prog w) A (field (.ref z) 3 >>= _) _ _ _
  refine wpAny_bind (wpAny_field hz rfl (x := .ref TI) rfl (wpAny_bind (wpAny_seqItems hTI rfl ?_)))
  show wpAny (model prog w) A (Builtin.SmallTypes.ownedTupleIsFree (.ref z) >>= _) _ _ _
  refine wpAny_bind (zn_free hz hf ?_ fun h0 hz0 hs0 => ?_)
  · simp only [if_true]
    refine wpAny_bind (wpAny_rule (wpAny_bind (wpAny_field hz rfl (x := .ref TO) rfl (wpAny_bind (wpAny_setField_rec hz (by simp) fun g1 hz1 hs1 => ?_)))))
    replace hz1 : ZR g1 z TI TO .ellipsis f1 := hz1
    replace hs1 : Heap.SameBut z hp g1 := hs1
    refine wpAny_bind ?_
    simp only [List.zipIdx_cons, List.zipIdx_nil, List.forIn_cons, List.forIn_nil]
    refine wpAny_bind (wpAny_bind (wpAny_onRaise ?_))
    show wpAny (model prog w) A (Builtin.SmallTypes.nextOf (.ref i1) >>= _) _ _ ⟨g1, g, d, tk0, os⟩
    refine wpAny_bind (D1.item i _ _ _ hlt1 (D1.over st1 hs1 S.zf1) fun x g2 tk1 hx sn1 hs2 => wpAny_pure ?_)
    replace hs2 : Heap.SameBut i1 g1 g2 := hs2
    have hTO2 : IsPair g2 TO a b := hs2.extBut _ _ S.Ti1 (hs1.extBut _ _ S.TOz hTO)
    refine wpAny_bind (wpAny_seqItems (s := ⟨g2, g, d, tk1, os⟩) hTO2 rfl (wpAny_bind (wpAny_updateSeq_pair (s := ⟨g2, g, d, tk1, os⟩) hTO2 fun g3 hTO3 hs3 => ?_)))
    replace hTO3 : IsPair g3 TO x b := hTO3
    replace hs3 : Heap.SameBut TO g2 g3 := hs3
    refine wpAny_bind (wpAny_letGo (wpAny_pure (wpAny_bind (wpAny_bind (wpAny_onRaise ?_)))))
    show wpAny (model prog w) A (Builtin.SmallTypes.nextOf (.ref i2) >>= _) _ _ ⟨g3, g, d, tk1, os⟩
    refine wpAny_bind (D2.item i _ _ _ hlt2 (D2.over (D2.over (D2.over st2 hs1 S.zf2) hs2 S.sep1_2) hs3 S.Tf2) fun y g4 tk2 hy sn2 hs4 => wpAny_pure ?_)
    replace hs4 : Heap.SameBut i2 g3 g4 := hs4
    have hTO4 : IsPair g4 TO x b := hs4.extBut _ _ S.Ti2 hTO3
    refine wpAny_bind (wpAny_seqItems (s := ⟨g4, g, d, tk2, os⟩) hTO4 rfl (wpAny_bind (wpAny_updateSeq_pair (s := ⟨g4, g, d, tk2, os⟩) hTO4 fun g5 hTO5 hs5 => ?_)))
    replace hTO5 : IsPair g5 TO x y := hTO5
    replace hs5 : Heap.SameBut TO g4 g5 := hs5
    refine wpAny_bind (wpAny_letGo (wpAny_pure (wpAny_pure (wpAny_bind (wpAny_seqItems (s := ⟨g5, g, d, tk2, os⟩) hTO5 rfl (wpAny_bind (wpAny_newTuple ?_)))))))
    have sz : g5.objs.size = hp.objs.size := by rw [hs5.1, hs4.1, hs3.1, hs2.1, hs1.1]
    have hz5 : ZR g5 z TI TO .ellipsis f1 := hs5.extBut _ _ S.TOz.symm (hs4.extBut _ _ S.zi2 (hs3.extBut _ _ S.TOz.symm (hs2.extBut _ _ S.zi1 hz1)))
    have keep : ∀ c o, c ≠ z → c ≠ TO → c ≠ i1 → c ≠ i2 → hp.get? c = some o → g5.get? c = some o := fun c o c1 c2 c3 c4 e => hs5.extBut _ _ c2 (hs4.extBut _ _ c4 (hs3.extBut _ _ c2 (hs2.extBut _ _ c3 (hs1.extBut _ _ c1 e))))
    have h15 : St1 (i + 1) g5 := D1.over (D1.over (D1.over sn1 hs3 S.Tf1) hs4 S.sep2_1) hs5 S.Tf1
    have h25 : St2 (i + 1) g5 := D2.over sn2 hs5 S.Tf2
    have zlt : z < g5.objs.size := Heap.lt_size hz5
    show wpAny (model prog w) A (Builtin.SmallTypes.ownedTupleHandOut (.ref z) (.ref g5.objs.size) >>= _) _ _ ⟨g5.push { cls := .type "tuple", data := .seq #[x, y] }, g, d, tk2, os⟩
    refine wpAny_bind ?_
    unfold Builtin.SmallTypes.ownedTupleHandOut
    have hz6 : ZR (g5.push { cls := .type "tuple", data := .seq #[x, y] }) z TI TO .ellipsis f1 := Heap.get?_push_of_some _ hz5
    refine wpAny_bind (wpAny_setField_rec hz6 (by simp) fun g7 hz7 hs7 => ?_)
    replace hz7 : ZR g7 z TI TO (rawInt g5.objs.size) f1 := hz7
    replace hs7 : Heap.SameBut z (g5.push { cls := .type "tuple", data := .seq #[x, y] }) g7 := hs7
    refine wpAny_setField_rec hz7 (by simp) fun g8 hz8 hs8 => ?_
    replace hz8 : ZR g8 z TI TO (rawInt g5.objs.size) (.bool false) := hz8
    replace hs8 : Heap.SameBut z g7 g8 := hs8
    have up : ∀ c o, c ≠ z → g5.get? c = some o → g8.get? c = some o := fun c o c1 e => hs8.extBut _ _ c1 (hs7.extBut _ _ c1 (Heap.get?_push_of_some _ e))
    have hT8 : IsPair g8 g5.objs.size x y := hs8.extBut _ _ (Nat.ne_of_gt zlt) (hs7.extBut _ _ (Nat.ne_of_gt zlt) (Heap.get?_push_size _ rfl))
    have sz8 : g8.objs.size = g5.objs.size + 1 := by rw [hs8.1, hs7.1, Heap.size_push]
    refine wpAny_pure ⟨_, rfl, ?_⟩
    show Q (.ref g5.objs.size) ⟨g8, g, d, tk2, os⟩
    rw [sz] at hz8 hT8 sz8 ⊢
    exact hQ x y g8 tk2 _ _ hx hy (.inr ⟨_, rfl⟩) hz8 ⟨x, y, up _ _ S.TOz hTO5⟩ (D1.frame _ _ _ h15 fun b hb o e => up b o (fun q => S.zf1 (q ▸ hb)) e) (D2.frame _ _ _ h25 fun b hb o e => up b o (fun q => S.zf2 (q ▸ hb)) e) hT8 sz8 fun c o c1 c2 c3 c4 e => up c o c1 (keep c o c1 c2 c3 c4 e)
  · simp only [Bool.false_eq_true, if_false]
    replace hs0 : Heap.SameBut z hp h0 := hs0
    refine wpAny_bind ?_
    rw [← Array.forIn_toList]
    simp only [List.forIn_cons, List.forIn_nil]
    refine wpAny_bind (wpAny_bind (wpAny_holding ?_))
    show wpAny (model prog w) A (Builtin.SmallTypes.nextOf (.ref i1) >>= _) _ _ ⟨h0, g, d, tk0, os⟩
    refine wpAny_bind (D1.item i _ _ _ hlt1 (D1.over st1 hs0 S.zf1) fun x g1 tk1 hx sn1 hs1 => wpAny_pure ?_)
    replace hs1 : Heap.SameBut i1 h0 g1 := hs1
    refine wpAny_pure (wpAny_bind (wpAny_bind (wpAny_holding ?_)))
    show wpAny (model prog w) A (Builtin.SmallTypes.nextOf (.ref i2) >>= _) _ _ ⟨g1, g, d, tk1, os⟩
    refine wpAny_bind (D2.item i _ _ _ hlt2 (D2.over (D2.over st2 hs0 S.zf2) hs1 S.sep1_2) fun y g2 tk2 hy sn2 hs2 => wpAny_pure ?_)
    replace hs2 : Heap.SameBut i2 g1 g2 := hs2
    refine wpAny_pure (wpAny_pure ?_)
    refine wpAny_bind (wpAny_newTuple (s := ⟨g2, g, d, tk2, os⟩) (hsz := show 2 ≤ sizeLine by decide) ?_)
    have sz : g2.objs.size = hp.objs.size := by rw [hs2.1, hs1.1, hs0.1]
    have keep : ∀ c o, c ≠ z → c ≠ i1 → c ≠ i2 → hp.get? c = some o → g2.get? c = some o := fun c o c1 c2 c3 e => hs2.extBut _ _ c3 (hs1.extBut _ _ c2 (hs0.extBut _ _ c1 e))
    have hz2 : ZR g2 z TI TO f0 (.bool true) := hs2.extBut _ _ S.zi2 (hs1.extBut _ _ S.zi1 hz0)
    refine wpAny_pure ⟨_, rfl, ?_⟩
    show Q (.ref g2.objs.size) ⟨g2.push { cls := .type "tuple", data := .seq #[x, y] }, g, d, tk2, os⟩
    have pz : IsPair (g2.push { cls := .type "tuple", data := .seq #[x, y] }) g2.objs.size x y := Heap.get?_push_size _ rfl
    have ps : (g2.push { cls := .type "tuple", data := .seq #[x, y] }).objs.size = hp.objs.size + 1 := by rw [Heap.size_push, sz]
    rw [sz] at pz ⊢
    exact hQ x y _ tk2 f0 (.bool true) hx hy hf (Heap.get?_push_of_some _ hz2) ⟨a, b, Heap.get?_push_of_some _ (keep _ _ S.TOz S.Ti1 S.Ti2 hTO)⟩ (D1.frame _ _ _ (D1.over sn1 hs2 S.sep2_1) fun b hb o e => Heap.get?_push_of_some _ e) (D2.frame _ _ _ sn2 fun b hb o e => Heap.get?_push_of_some _ e) pz ps fun c o c1 _ c3 c4 e => Heap.get?_push_of_some _ (keep c o c1 c3 c4 e)
theorem zd_end {Q : Fin → Shared → Prop} (S : ZipSep2 z TI TO i1 i2 fp1 fp2) (D1 : Draws prog w A i1 fp1 n1 P1 St1) (D2 : Draws prog w A i2 fp2 n2 P2 St2) (hz : ZR s.heap z TI TO f0 f1) (hf : Fo f0) (hTI : IsPair s.heap TI (.ref i1) (.ref i2)) (hTO : IsPair s.heap TO a b)
    (st1 : St1 i s.heap) (st2 : St2 i s.heap) (hle1 : i ≤ n1) (hle2 : i ≤ n2) (hend : i = n1 ∨ i = n2)
    (hE : ∀ h' tk e, (∀ c o, c ≠ z → c ≠ TO → c ≠ i1 → c ≠ i2 → s.heap.get? c = some o → h'.get? c = some o) → (∃ o, h'.get? e = some o ∧ o.cls = .type "StopIteration") → E (.ref e) { s with heap := h', toks := tk }) :
    wpAny (model prog w) A (Builtin.«zip.__next__» ⟨[.ref z], []⟩) Q E s := by
  obtain ⟨hp, g, d, tk0, os⟩ := s
  show wpAny (model prog w) A (field (.ref z) 2 >>= _) _ _ _
  refine wpAny_bind (wpAny_field hz rfl (x := .bool false) rfl ?_)
  show wpAny (model prog w) A (field (.ref z) 3 >>= _) _ _ _
  refine wpAny_bind (wpAny_field hz rfl (x := .ref TI) rfl (wpAny_bind (wpAny_seqItems hTI rfl ?_)))
  show wpAny (model prog w) A (Builtin.SmallTypes.ownedTupleIsFree (.ref z) >>= _) _ _ _
  refine wpAny_bind (zn_free hz hf ?_ fun h0 hz0 hs0 => ?_)
  · simp only [if_true]
    refine wpAny_bind (wpAny_rule (wpAny_bind (wpAny_field hz rfl (x := .ref TO) rfl (wpAny_bind (wpAny_setField_rec hz (by simp) fun g1 hz1 hs1 => ?_)))))
    replace hz1 : ZR g1 z TI TO .ellipsis f1 := hz1
    replace hs1 : Heap.SameBut z hp g1 := hs1
    refine wpAny_bind ?_
    simp only [List.zipIdx_cons, List.zipIdx_nil, List.forIn_cons, List.forIn_nil]
    refine wpAny_bind (wpAny_bind (wpAny_onRaise ?_))
    show wpAny (model prog w) A (Builtin.SmallTypes.nextOf (.ref i1) >>= _) _ _ ⟨g1, g, d, tk0, os⟩
    by_cases hlt1 : i < n1
    · refine wpAny_bind (D1.item i _ _ _ hlt1 (D1.over st1 hs1 S.zf1) fun x g2 tk1 hx sn1 hs2 => wpAny_pure ?_)
      replace hs2 : Heap.SameBut i1 g1 g2 := hs2
      have hTO2 : IsPair g2 TO a b := hs2.extBut _ _ S.Ti1 (hs1.extBut _ _ S.TOz hTO)
      refine wpAny_bind (wpAny_seqItems (s := ⟨g2, g, d, tk1, os⟩) hTO2 rfl (wpAny_bind (wpAny_updateSeq_pair (s := ⟨g2, g, d, tk1, os⟩) hTO2 fun g3 hTO3 hs3 => ?_)))
      replace hs3 : Heap.SameBut TO g2 g3 := hs3
      refine wpAny_bind (wpAny_letGo (wpAny_pure (wpAny_bind (wpAny_bind (wpAny_onRaise ?_)))))
      have hi2 : i = n2 := by omega
      show wpAny (model prog w) A (Builtin.SmallTypes.nextOf (.ref i2) >>= _) _ _ ⟨g3, g, d, tk1, os⟩
      refine wpAny_bind (D2.done ⟨g3, g, d, tk1, os⟩ _ _ (by rw [← hi2]; exact D2.over (D2.over (D2.over st2 hs1 S.zf2) hs2 S.sep1_2) hs3 S.Tf2) fun g4 e hs4 he => ?_)
      replace hs4 : Heap.ExtBut i2 g3 g4 := hs4
      obtain ⟨oe, hoe, hce⟩ := he
      replace hoe : g4.get? e = some oe := hoe
      have hz4 : ZR g4 z TI TO .ellipsis f1 := hs4 _ _ S.zi2 (hs3.extBut _ _ S.TOz.symm (hs2.extBut _ _ S.zi1 hz1))
      have hez : e ≠ z := fun q => by subst q; rw [hz4] at hoe; cases hoe; simp at hce
      refine wpAny_setField_rec (s := ⟨g4, g, d, tk1, os⟩) hz4 (by simp) fun g5 _ hs5 => ?_
      replace hs5 : Heap.SameBut z g4 g5 := hs5
      exact hE g5 tk1 e (fun c o c1 c2 c3 c4 q => hs5.extBut _ _ c1 (hs4 _ _ c4 (hs3.extBut _ _ c2 (hs2.extBut _ _ c3 (hs1.extBut _ _ c1 q))))) ⟨oe, hs5.extBut _ _ hez hoe, hce⟩
    · have hi1 : i = n1 := by omega
      refine wpAny_bind (D1.done ⟨g1, g, d, tk0, os⟩ _ _ (by rw [← hi1]; exact D1.over st1 hs1 S.zf1) fun g2 e hs2 he => ?_)
      replace hs2 : Heap.ExtBut i1 g1 g2 := hs2
      obtain ⟨oe, hoe, hce⟩ := he
      replace hoe : g2.get? e = some oe := hoe
      have hz2 : ZR g2 z TI TO .ellipsis f1 := hs2 _ _ S.zi1 hz1
      have hez : e ≠ z := fun q => by subst q; rw [hz2] at hoe; cases hoe; simp at hce
      refine wpAny_setField_rec (s := ⟨g2, g, d, tk0, os⟩) hz2 (by simp) fun g3 _ hs3 => ?_
      replace hs3 : Heap.SameBut z g2 g3 := hs3
      exact hE g3 tk0 e (fun c o c1 _ c3 _ q => hs3.extBut _ _ c1 (hs2 _ _ c3 (hs1.extBut _ _ c1 q))) ⟨oe, hs3.extBut _ _ hez hoe, hce⟩
  · simp only [Bool.false_eq_true, if_false]
    replace hs0 : Heap.SameBut z hp h0 := hs0
    refine wpAny_bind ?_
    rw [← Array.forIn_toList]
    simp only [List.forIn_cons, List.forIn_nil]
    refine wpAny_bind (wpAny_bind (wpAny_holding ?_))
    show wpAny (model prog w) A (Builtin.SmallTypes.nextOf (.ref i1) >>= _) _ _ ⟨h0, g, d, tk0, os⟩
    by_cases hlt1 : i < n1
    · refine wpAny_bind (D1.item i _ _ _ hlt1 (D1.over st1 hs0 S.zf1) fun x g1 tk1 hx sn1 hs1 => wpAny_pure ?_)
      replace hs1 : Heap.SameBut i1 h0 g1 := hs1
      refine wpAny_pure (wpAny_bind (wpAny_bind (wpAny_holding ?_)))
      have hi2 : i = n2 := by omega
      show wpAny (model prog w) A (Builtin.SmallTypes.nextOf (.ref i2) >>= _) _ _ ⟨g1, g, d, tk1, os⟩
      exact wpAny_bind (D2.done ⟨g1, g, d, tk1, os⟩ _ _ (by rw [← hi2]; exact D2.over (D2.over st2 hs0 S.zf2) hs1 S.sep1_2) fun g2 e hs2 he => hE g2 tk1 e (fun c o c1 _ c3 c4 q => hs2 _ _ c4 (hs1.extBut _ _ c3 (hs0.extBut _ _ c1 q))) he)
    · have hi1 : i = n1 := by omega
      exact wpAny_bind (D1.done ⟨h0, g, d, tk0, os⟩ _ _ (by rw [← hi1]; exact D1.over st1 hs0 S.zf1) fun g2 e hs2 he => hE g2 tk0 e (fun c o c1 _ c3 _ q => hs2 _ _ c3 (hs0.extBut _ _ c1 q)) he)
def ZSt (z TI TO i1 i2 : Addr) (St1 St2 : Nat → Heap → Prop) (i : Nat) (h : Heap) : Prop := (∃ f0 f1, Fo f0 ∧ ZR h z TI TO f0 f1) ∧ IsPair h TI (.ref i1) (.ref i2) ∧ (∃ x y, IsPair h TO x y) ∧ St1 i h ∧ St2 i h
theorem zd_nx {Q : Option Value → Shared → Prop} (S : ZipSep2 z TI TO i1 i2 fp1 fp2) (D1 : Draws prog w A.in1 i1 fp1 n1 P1 St1) (D2 : Draws prog w A.in1 i2 fp2 n2 P2 St2) (st : ZSt z TI TO i1 i2 St1 St2 i s.heap) (hlt1 : i < n1) (hlt2 : i < n2)
    (hQ : ∀ x y h' tk, P1 i x → P2 i y → ZSt z TI TO i1 i2 St1 St2 (i + 1) h' → IsPair h' s.heap.objs.size x y → h'.objs.size = s.heap.objs.size + 1 →
      (∀ c o, c ≠ z → c ≠ TO → c ≠ i1 → c ≠ i2 → s.heap.get? c = some o → h'.get? c = some o) → Q (some (.ref s.heap.objs.size)) { s with heap := h', toks := tk }) : wpAny (model prog w) A (pyNext (.ref z)) Q E s := by
  obtain ⟨⟨f0, f1, hf, hz⟩, hTI, ⟨a, b, hTO⟩, st1, st2⟩ := st
  have ty : s.TypeIs (.ref z) "zip" := ⟨_, hz, rfl⟩
  unfold pyNext
  exact wpAny_bind (wpAny_attempt (wpAny_callSpecial?_slot (name := Str.ofString "__next__") ty F.slot_zip_next (wpAny_call_entry F.slot_zip_next ty F.entry_zip_next (zd_item S D1 D2 hz hf hTI hTO st1 st2 hlt1 hlt2 fun x y h' tk g0 g1 px py b0 b1 b2 b3 b4 b5 b6 b7 => wpAny_pure (hQ x y h' tk px py ⟨⟨g0, g1, b0, b1⟩, b7 _ _ S.TIz S.TITO S.TIi1 S.TIi2 hTI, b2, b3, b4⟩ b5 b6 b7)) (F.args_zip_next_1 _))))
theorem zd_fin {Q : Option Value → Shared → Prop} (S : ZipSep2 z TI TO i1 i2 fp1 fp2) (D1 : Draws prog w A.in1 i1 fp1 n1 P1 St1) (D2 : Draws prog w A.in1 i2 fp2 n2 P2 St2) (st : ZSt z TI TO i1 i2 St1 St2 i s.heap) (hle1 : i ≤ n1) (hle2 : i ≤ n2) (hend : i = n1 ∨ i = n2)
    (hQ : ∀ h' tk, (∀ c o, c ≠ z → c ≠ TO → c ≠ i1 → c ≠ i2 → s.heap.get? c = some o → h'.get? c = some o) → Q none { s with heap := h', toks := tk }) : wpAny (model prog w) A (pyNext (.ref z)) Q E s := by
  obtain ⟨⟨f0, f1, hf, hz⟩, hTI, ⟨a, b, hTO⟩, st1, st2⟩ := st
  have ty : s.TypeIs (.ref z) "zip" := ⟨_, hz, rfl⟩
  unfold pyNext
  refine wpAny_bind (wpAny_attempt (wpAny_callSpecial?_slot (name := Str.ofString "__next__") ty F.slot_zip_next (wpAny_call_entry F.slot_zip_next ty F.entry_zip_next (zd_end S D1 D2 hz hf hTI hTO st1 st2 hle1 hle2 hend fun h' tk e hk he => ?_) (F.args_zip_next_1 _))))
  obtain ⟨o, ho, hc⟩ := he
  exact wpAny_bind (wpAny_isInstance (T := "StopIteration") (b := true) ⟨o, ho, hc⟩ isSubtype_stop (wpAny_pure (hQ _ _ hk)))
theorem ZSt.keep {h h' : Heap} (D1 : Draws prog w A i1 fp1 n1 P1 St1) (D2 : Draws prog w A i2 fp2 n2 P2 St2) (st : ZSt z TI TO i1 i2 St1 St2 i h) (k : ∀ c o, (c = z ∨ c = TI ∨ c = TO ∨ c ∈ fp1 ∨ c ∈ fp2) → h.get? c = some o → h'.get? c = some o) : ZSt z TI TO i1 i2 St1 St2 i h' := by
  obtain ⟨⟨f0, f1, hf, hz⟩, hTI, ⟨a, b, hTO⟩, st1, st2⟩ := st
  exact ⟨⟨f0, f1, hf, k _ _ (.inl rfl) hz⟩, k _ _ (.inr (.inl rfl)) hTI, ⟨a, b, k _ _ (.inr (.inr (.inl rfl))) hTO⟩, D1.frame _ _ _ st1 fun b hb o e => k b o (.inr (.inr (.inr (.inl hb)))) e, D2.frame _ _ _ st2 fun b hb o e => k b o (.inr (.inr (.inr (.inr hb)))) e⟩
end
end Mp

/-! NW: sorted(zip(..)), tuple(zip(..)). -/
namespace Mp
open PySem PySem.Spec L2
open PyProof.Rows hiding St
theorem nolen_zip : typeLookup (.type "zip") "__len__" = pure none := by rw [typeLookup_type, builtinLookup_eq_fast]; kernel_rfl
theorem nohint_zip : typeLookup (.type "zip") "__length_hint__" = pure none := by rw [typeLookup_type, builtinLookup_eq_fast]; kernel_rfl
section
variable {prog : Program} {w : World} {A : Around} {E : Value → Shared → Prop} {s : Shared} {r : Addr}
theorem zhint (hT : s.TypeIs (.ref r) "zip") {Q : Bool → Shared → Prop} (h : Q true s) : wpAny (model prog w) A (Builtin.List.listLengthHint (.ref r)) Q E s := by
  unfold Builtin.List.listLengthHint
  refine wpAny_bind (wpAny_specialOf hT nolen_zip ?_)
  refine wpAny_ite_split (fun hab => absurd hab (by decide)) (fun _ => ?_)
  refine wpAny_ite_split (fun hab => absurd hab (by decide)) (fun _ => ?_)
  refine wpAny_bind (wpAny_specialOf hT nohint_zip ?_)
  exact wpAny_pure h
end
structure MadeZ (P1 P2 : Nat → Value → Prop) (lo : Addr) (h : Heap) (as : List Addr) : Prop where
  rise : as.Pairwise (· < ·)
  above : ∀ a ∈ as, lo < a
  pairs : ∀ (j : Nat) (a : Addr), as[j]? = some a → ∃ x y, P1 j x ∧ P2 j y ∧ IsPair h a x y
section
variable {prog : Program} {w : World} {A : Around} {E : Value → Shared → Prop} {s : Shared} {z TI TO i1 i2 : Addr} {fp1 fp2 : List Addr} {n1 n2 : Nat} {P1 P2 : Nat → Value → Prop} {St1 St2 : Nat → Heap → Prop}
theorem MadeZ.there {lo : Addr} {h : Heap} {as : List Addr} (g : MadeZ P1 P2 lo h as) {a : Addr} (ha : a ∈ as) : a < h.objs.size := by
  obtain ⟨j, hj⟩ := List.mem_iff_getElem?.mp ha
  obtain ⟨_, _, _, _, e⟩ := g.pairs j a hj
  exact Heap.lt_size e
theorem zloop {S : Addr} (Z : ZipSep2 z TI TO i1 i2 fp1 fp2) (D1 : Draws prog w A.in1.in1 i1 fp1 n1 P1 St1) (D2 : Draws prog w A.in1.in1 i2 fp2 n2 P2 St2) (hS1 : S ∉ fp1) (hS2 : S ∉ fp2) (lz : z < S) (lTI : TI < S) (lTO : TO < S) (l1 : i1 < S) (l2 : i2 < S) (hn : min n1 n2 ≤ sizeLine) (res : Value) {R : Result → Shared → Prop} {h₁ : Heap}
    (hR : ∀ h' tk acc c as, (∀ b o, b ≠ S → b ≠ z → b ≠ TO → b ≠ i1 → b ≠ i2 → h₁.get? b = some o → h'.get? b = some o) → h'.get? S = some { cls := .type "list", dict := none, data := .seq acc c, slots := #[] } → as.length = min n1 n2 → MadeZ P1 P2 S h' as →
      acc.toList = as.map Value.ref → R (.ok (.ret res)) { s with heap := h', toks := tk }) :
    ∀ (k i : Nat) (h : Heap) (tk c : Nat) (acc : Array Value) (as : List Addr), min n1 n2 - i = k → i ≤ min n1 n2 → ZSt z TI TO i1 i2 St1 St2 i h → (∀ b o, b ≠ S → b ≠ z → b ≠ TO → b ≠ i1 → b ≠ i2 → h₁.get? b = some o → h.get? b = some o) →
      h.get? S = some { cls := .type "list", dict := none, data := .seq acc c, slots := #[] } → acc.toList = as.map Value.ref → as.length = i → MadeZ P1 P2 S h as →
      codeAny (model prog w) A (.builtin "list.extend.loop" ⟨[.ref S, .ref z, res], []⟩) R { s with heap := h, toks := tk } := by
  have nz : S ≠ z := Nat.ne_of_gt lz
  have nTO : S ≠ TO := Nat.ne_of_gt lTO
  have n1' : S ≠ i1 := Nat.ne_of_gt l1
  have n2' : S ≠ i2 := Nat.ne_of_gt l2
  intro k
  induction k with
  | zero =>
    intro i h tk c acc as hk hi hst hkeep hS hacc hal hG
    refine codeAny_builtin PySem.F.entry_extend_loop ?_
    rw [Around.under_plainId PySem.F.plain_extend_loop _]
    show wpAny _ A.in1 (pyNext (.ref z) >>= _) _ _ _
    refine wpAny_bind (zd_fin (s := { s with heap := h, toks := tk }) (A := A.in1) Z D1 D2 hst (by omega) (by omega) (by omega) fun h' tk' he => ?_)
    refine wpAny_pure (hR h' tk' acc c as (fun b o b1 b2 b3 b4 b5 e => he b o b2 b3 b4 b5 (hkeep b o b1 b2 b3 b4 b5 e)) (he S _ nz nTO n1' n2' hS) (by omega) ⟨hG.rise, hG.above, fun j a hj => ?_⟩ hacc)
    obtain ⟨x, y, e1, e2, e3⟩ := hG.pairs j a hj
    have ha : ∀ c : Addr, c < S → a ≠ c := fun c hc => Nat.ne_of_gt (Nat.lt_trans hc (hG.above a (List.mem_of_getElem? hj)))
    exact ⟨x, y, e1, e2, he a _ (ha _ lz) (ha _ lTO) (ha _ l1) (ha _ l2) e3⟩
  | succ k ih =>
    intro i h tk c acc as hk hi hst hkeep hS hacc hal hG
    have hsz : acc.size = i := by rw [← Array.length_toList, hacc, List.length_map, hal]
    refine codeAny_builtin PySem.F.entry_extend_loop ?_
    rw [Around.under_plainId PySem.F.plain_extend_loop _]
    show wpAny _ A.in1 (pyNext (.ref z) >>= _) _ _ _
    refine wpAny_bind (zd_nx (s := { s with heap := h, toks := tk }) (A := A.in1) Z D1 D2 hst (by omega) (by omega) fun x y h' tk' px py hst' ht hz hkp => ?_)
    dsimp only at ht hz hkp ⊢
    have hS' := hkp S _ nz nTO n1' n2' hS
    have up : ∀ b o, b ≠ S → h'.get? b = some o → (h'.update S (Obj.mapSeq (·.push (Value.ref h.objs.size)))).get? b = some o := fun b o hb e => (Heap.get?_update_other _ _ (Ne.symm hb)).trans e
    have hSl : S < h.objs.size := Heap.lt_size hS
    show wpAny _ A.in1 (updateSeq S (·.push (Value.ref h.objs.size)) >>= _) _ _ _
    refine wpAny_bind ?_
    refine wpAny_updateSeq (s := { s with heap := h', toks := tk' }) hS' rfl (wpAny_pure ⟨plainId_quiet PySem.F.plain_extend_loop _, ih (i + 1) _ tk' _ (acc.push (Value.ref h.objs.size)) (as ++ [h.objs.size]) (by omega) (by omega) (hst'.keep D1 D2 fun b o hb e => up b o ?_ e)
      (fun b o b1 b2 b3 b4 b5 e => up b o b1 (hkp b o b2 b3 b4 b5 (hkeep b o b1 b2 b3 b4 b5 e))) (Heap.get?_update_self _ hS' rfl) (by rw [Array.toList_push, hacc, List.map_append]; rfl) (by rw [List.length_append, hal]; rfl) ⟨?_, ?_, ?_⟩⟩) (by rw [hsz]; omega) (by show (acc.push (Value.ref h.objs.size)).size ≤ sizeLine + 1; rw [Array.size_push, hsz]; omega)
    · rcases hb with e | e | e | e | e
      · rw [e]; exact Nat.ne_of_lt lz
      · rw [e]; exact Nat.ne_of_lt lTI
      · rw [e]; exact Nat.ne_of_lt lTO
      · exact fun q => hS1 (q ▸ e)
      · exact fun q => hS2 (q ▸ e)
    · refine List.pairwise_append.mpr ⟨hG.rise, List.pairwise_singleton _ _, fun a ha b hb => ?_⟩
      rw [List.mem_singleton.mp hb]
      exact hG.there ha
    · intro a ha
      rcases List.mem_append.mp ha with ha | ha
      · exact hG.above a ha
      · rw [List.mem_singleton.mp ha]; exact hSl
    · intro j b hj
      rcases Nat.lt_trichotomy j as.length with h1 | h1 | h1
      · rw [List.getElem?_append_left h1] at hj
        obtain ⟨x', y', e1, e2, e3⟩ := hG.pairs j b hj
        have hb := hG.above b (List.mem_of_getElem? hj)
        have hb' : ∀ c : Addr, c < S → b ≠ c := fun c hc => Nat.ne_of_gt (Nat.lt_trans hc hb)
        exact ⟨x', y', e1, e2, up b _ (Nat.ne_of_gt hb) (hkp b _ (hb' _ lz) (hb' _ lTO) (hb' _ l1) (hb' _ l2) e3)⟩
      · subst h1
        have hb : h.objs.size = b := by simpa using hj
        subst hb
        rw [← hal] at px py
        exact ⟨x, y, px, py, up _ _ (Nat.ne_of_gt hSl) ht⟩
      · have hnone : (as ++ [h.objs.size])[j]? = none := List.getElem?_eq_none (by rw [List.length_append, List.length_singleton]; omega)
        rw [hnone] at hj; cases hj
/-- collect of a zip -/
theorem zcollect {R : List Value → Shared → Prop} (Z : ZipSep2 z TI TO i1 i2 fp1 fp2) (D1 : Draws prog w A.in1.in1 i1 fp1 n1 P1 St1) (D2 : Draws prog w A.in1.in1 i2 fp2 n2 P2 St2) (f1 : ∀ c ∈ fp1, c < s.heap.objs.size) (f2 : ∀ c ∈ fp2, c < s.heap.objs.size) (hst : ZSt z TI TO i1 i2 St1 St2 0 s.heap) (hn : min n1 n2 ≤ sizeLine)
    (h : ∀ (h' : Heap) (tk : Nat) (as : List Addr), (∀ b o, b ≠ z → b ≠ TO → b ≠ i1 → b ≠ i2 → s.heap.get? b = some o → h'.get? b = some o) → s.heap.objs.size < h'.objs.size → as.length = min n1 n2 → MadeZ P1 P2 s.heap.objs.size h' as → R (as.map Value.ref) { s with heap := h', toks := tk }) :
    wpAny (model prog w) A (collect (.ref z)) R E s := by
  obtain ⟨⟨f0, g1, hf, hz⟩, hTI, ⟨a, b, hTO⟩, st1, st2⟩ := id hst
  have lz : z < s.heap.objs.size := Heap.lt_size hz
  have lTI : TI < s.heap.objs.size := Heap.lt_size hTI
  have lTO : TO < s.heap.objs.size := Heap.lt_size hTO
  unfold collect
  refine wpAny_bind (wpAny_runValue (codeAny_builtin entry_proto_collect' ?_))
  rw [Around.under_plainId PySem.F.plain_proto_collect _]
  show wpAny _ A.in1 (newList [] >>= fun l => again (.builtin "list.__iadd__" ⟨[l, .ref z], []⟩)) _ _ s
  refine wpAny_bind (wpAny_newObj_type ?_)
  refine wpAny_pure ⟨plainId_quiet PySem.F.plain_list_iadd _, codeAny_builtin entry_list_iadd' ?_⟩
  rw [Around.under_plainId PySem.F.plain_list_iadd _]
  have hS₁ : (s.heap.push { cls := .type "list", data := .seq ([] : List Value).toArray }).get? s.heap.objs.size = some { cls := .type "list", data := .seq #[] } := Heap.get?_push_size _ rfl
  show wpAny _ A.in1 (Builtin.List.listExtendWith (.ref s.heap.objs.size) (.ref z) (.ref s.heap.objs.size)) _ _ _
  have key : ∀ (h0 : Heap) (c₁ tk : Nat), (∀ b o, b ≠ s.heap.objs.size → (s.heap.push { cls := .type "list", data := .seq ([] : List Value).toArray }).get? b = some o → h0.get? b = some o) →
      h0.get? s.heap.objs.size = some { cls := .type "list", data := .seq #[] c₁ } → codeAny (model prog w) A (.builtin "list.extend.loop" ⟨[.ref s.heap.objs.size, .ref z, .ref s.heap.objs.size], []⟩)
        (fun (q : Result) (s' : Shared) => ∃ (h' : Heap) (tk : Nat) (acc' : Array Value) (c' : Nat) (as : List Addr), q = .ok (.ret (.ref s.heap.objs.size)) ∧ s' = { s with heap := h', toks := tk } ∧
          (∀ b o, b ≠ z → b ≠ TO → b ≠ i1 → b ≠ i2 → s.heap.get? b = some o → h'.get? b = some o) ∧ h'.get? s.heap.objs.size = some { cls := .type "list", dict := none, data := .seq acc' c', slots := #[] } ∧ as.length = min n1 n2 ∧ MadeZ P1 P2 s.heap.objs.size h' as ∧ acc'.toList = as.map Value.ref) { s with heap := h0, toks := tk } := by
    intro h0 c₁ tk hk hS
    refine zloop (s := s) (h₁ := s.heap) Z D1 D2 (fun q => absurd (f1 _ q) (Nat.lt_irrefl _)) (fun q => absurd (f2 _ q) (Nat.lt_irrefl _)) lz lTI lTO (f1 _ Z.mem1) (f2 _ Z.mem2) hn _ (fun h' tk' acc c as k' hS' hl hG hacc => ⟨h', tk', acc, c, as, rfl, rfl, fun b o b1 b2 b3 b4 e => k' b o (Nat.ne_of_lt (Heap.lt_size e)) b1 b2 b3 b4 e, hS', hl, hG, hacc⟩)
      (min n1 n2) 0 h0 tk c₁ #[] [] (Nat.sub_zero _) (Nat.zero_le _) (hst.keep D1 D2 fun c o _ e => hk c o (Nat.ne_of_lt (Heap.lt_size e)) (Heap.get?_push_of_some _ e)) (fun b o b1 _ _ _ _ e => hk b o b1 (Heap.get?_push_of_some _ e)) hS rfl rfl
      ⟨List.Pairwise.nil, (fun _ ha => nomatch ha), (fun j a hj => by simp at hj)⟩
  have fin : ∀ (q : Result) (s' : Shared), (∃ (h' : Heap) (tk : Nat) (acc' : Array Value) (c' : Nat) (as : List Addr), q = .ok (.ret (.ref s.heap.objs.size)) ∧ s' = { s with heap := h', toks := tk } ∧
          (∀ b o, b ≠ z → b ≠ TO → b ≠ i1 → b ≠ i2 → s.heap.get? b = some o → h'.get? b = some o) ∧ h'.get? s.heap.objs.size = some { cls := .type "list", dict := none, data := .seq acc' c', slots := #[] } ∧ as.length = min n1 n2 ∧ MadeZ P1 P2 s.heap.objs.size h' as ∧ acc'.toList = as.map Value.ref) →
      q = .ok (.ret (.ref s.heap.objs.size)) ∧ wpAny (model prog w) A (load s.heap.objs.size >>= fun ob => match ob.data with | .seq xs _ => pure xs.toList | _ => unsupported "internal:collect") R E s' := by
    rintro q s' ⟨h', tk, acc', c', as, rfl, rfl, hk, hS', hl, hG, hacc⟩
    refine ⟨rfl, wpAny_bind (wpAny_load hS' (wpAny_pure ?_))⟩
    show R acc'.toList _
    rw [hacc]
    exact h h' tk as hk (Heap.lt_size hS') hl hG
  unfold Builtin.List.listExtendWith
  have hz2 : ZR (s.heap.push { cls := .type "list", data := .seq ([] : List Value).toArray }) z TI TO f0 g1 := Heap.get?_push_of_some _ hz
  have ty : Shared.TypeIs { s with heap := s.heap.push { cls := .type "list", data := .seq ([] : List Value).toArray } } (.ref z) "zip" := ⟨_, hz2, rfl⟩
  refine wpAny_bind (wpAny_typeOf (T := "zip") ty ?_)
  have e1 : Builtin.List.listSameRef (.ref s.heap.objs.size) (.ref z) = false := by simp [Builtin.List.listSameRef, Nat.ne_of_gt lz]
  have e2 : (Value.type "zip" == Value.type "list") = false := by decide
  have e3 : (Value.type "zip" == Value.type "tuple") = false := by decide
  simp only [e1, e2, e3, Bool.or_false, Bool.false_eq_true, if_false]
  refine wpAny_bind (zn_iter (s := { s with heap := s.heap.push { cls := .type "list", data := .seq ([] : List Value).toArray } }) hz2 ?_)
  refine wpAny_bind (wpAny_holding (zhint ty ?_))
  refine wpAny_ite_split (fun _ => ?_) (fun hab => absurd rfl hab)
  refine wpAny_bind (wpAny_rule ?_)
  refine wpAny_bind ?_
  show wpAny _ _ (updateSeq s.heap.objs.size (·.push .none) >>= fun _ => updateSeq s.heap.objs.size (·.pop)) _ _ _
  refine wpAny_bind (wpAny_updateSeq hS₁ rfl ?_)
  have hS₂ := Heap.get?_update_self (Obj.mapSeq (·.push Value.none)) hS₁ rfl
  refine wpAny_updateSeq (hz := by seq_fits) hS₂ rfl ?_
  have hS₃ := Heap.get?_update_self (Obj.mapSeq (·.pop)) hS₂ rfl
  refine wpAny_pure ⟨plainId_quiet PySem.F.plain_extend_loop _, codeAny_mono (key _ _ _ (fun b o hb e => ?_) hS₃) fun q s' x => ?_⟩
  rotate_left
  · obtain ⟨rfl, y⟩ := fin q s' x
    exact y
  exact (Heap.get?_update_other _ _ (Ne.symm hb)).trans ((Heap.get?_update_other _ _ (Ne.symm hb)).trans e)
end
def IntP (ns : List Int) (j : Nat) (v : Value) : Prop := ∃ n t, ns[j]? = some n ∧ v = .int n t
def pk (h : Heap) (v : Value) : Int × Int := match v with
  | .ref a => match h.get? a with
    | some o => match o.data with
      | .seq xs _ => match xs.toList with
        | [.int x _, .int y _] => (x, y)
        | _ => (0, 0)
      | _ => (0, 0)
    | none => (0, 0)
  | _ => (0, 0)
theorem pk_of {h : Heap} {a : Addr} {x y : Int} {t u : Tok} (e : PySem.IsPair h a (.int x t) (.int y u)) : pk h (.ref a) = (x, y) := by
  unfold pk
  simp only [e]
def rfA : Value → Addr
  | .ref a => a
  | _ => 0
theorem rfA_map (as : List Addr) : (as.map Value.ref).map rfA = as := by
  rw [List.map_map]
  exact List.map_id _
theorem refs_of : ∀ {out : List Value} {as : List Addr}, out.Perm (as.map Value.ref) → out = (out.map rfA).map Value.ref := by
  intro out as h
  have : ∀ v ∈ out, Value.ref (rfA v) = v := fun v hv => by
    obtain ⟨a, _, rfl⟩ := List.mem_map.mp (h.mem_iff.mp hv)
    rfl
  rw [List.map_map]
  conv => lhs; rw [← List.map_id out]
  exact List.map_congr_left fun v hv => (this v hv).symm
section
variable {prog : Program} {w : World} {A : Around} {E : Value → Shared → Prop} {s : Shared} {z TI TO i1 i2 : Addr} {fp1 fp2 : List Addr} {St1 St2 : Nat → Heap → Prop} {ns ms : List Int}
theorem made_zip {h' : Heap} {lo : Addr} : ∀ {as : List Addr}, as.length = min ns.length ms.length → MadeZ (IntP ns) (IntP ms) lo h' as → as.map (fun a => pk h' (.ref a)) = ns.zip ms := by
  intro as hl g
  refine List.ext_getElem? fun j => ?_
  rw [List.getElem?_map]
  cases e : as[j]? with
  | none =>
    have : as.length ≤ j := List.getElem?_eq_none_iff.mp e
    symm
    exact List.getElem?_eq_none (by rw [List.length_zip]; omega)
  | some a =>
    obtain ⟨x, y, ⟨n, t, e1, rfl⟩, ⟨m, u, e2, rfl⟩, hp⟩ := g.pairs j a e
    have e3 : (ns.zip ms)[j]? = some (n, m) := List.getElem?_zip_eq_some.mpr ⟨e1, e2⟩
    rw [e3]
    show some (pk h' (.ref a)) = some (n, m)
    rw [pk_of hp]
theorem zsorted {Q : Value → Shared → Prop} (hh : A.handled = none) (Z : ZipSep2 z TI TO i1 i2 fp1 fp2) (D1 : ∀ A : Around, A.handled = none → Draws prog w A i1 fp1 ns.length (IntP ns) St1) (D2 : ∀ A : Around, A.handled = none → Draws prog w A i2 fp2 ms.length (IntP ms) St2)
    (f1 : ∀ c ∈ fp1, c < s.heap.objs.size) (f2 : ∀ c ∈ fp2, c < s.heap.objs.size) (hst : ZSt z TI TO i1 i2 St1 St2 0 s.heap) (hn : min ns.length ms.length ≤ sizeLine)
    (h : ∀ (h' : Heap) (tk c : Nat) (l : Addr) (as : List Addr) (ps : List (Int × Int)), (∀ b o, b ≠ z → b ≠ TO → b ≠ i1 → b ≠ i2 → s.heap.get? b = some o → h'.get? b = some o) → s.heap.objs.size ≤ l → l ∉ as → as.Nodup → (∀ a ∈ as, s.heap.objs.size ≤ a) →
      ps.Perm (ns.zip ms) → ps.Pairwise (fun p q => SrtO.lexB q p = false) → ps = as.map (fun a => pk h' (.ref a)) → (∀ a ∈ as, ∃ x y t u, PySem.IsPair h' a (.int x t) (.int y u)) → h'.get? l = some (seqObj "list" (as.map Value.ref).toArray c) → Q (.ref l) { s with heap := h', toks := tk }) :
    wpAny (model prog w) A (call (.builtin "sorted") [.ref z]) Q E s := by
  refine Calls.call_function_entry kind_sorted plain_sorted entry_sorted (args_sorted1 _) ?_
  unfold Builtin.«sorted»
  refine wpAny_bind (m := checkCount "sorted" 1 1 _) (wpAny_pure ?_)
  refine wpAny_bind (zcollect (A := A.in1) Z (D1 _ hh) (D2 _ hh) f1 f2 hst hn fun h' tk as hk hlt hl hG => ?_)
  have lz : (as.map Value.ref).length ≤ sizeLine := by rw [List.length_map, hl]; exact hn
  refine wpAny_bind (wpAny_newList ?_ lz)
  have nd : as.Nodup := List.Pairwise.imp (fun h => Nat.ne_of_lt h) hG.rise
  have hnew : (h'.push (seqObj "list" (as.map Value.ref).toArray 0)).get? h'.objs.size = some (seqObj "list" (as.map Value.ref).toArray 0) := Heap.get?_push_size _ rfl
  have isp : ∀ v ∈ as.map Value.ref, Srt.IsPair h' v (pk h' v).1 (pk h' v).2 := fun v hv => by
    obtain ⟨a, ha, rfl⟩ := List.mem_map.mp hv
    obtain ⟨j, hj⟩ := List.mem_iff_getElem?.mp ha
    obtain ⟨x, y, ⟨n, t, e1, rfl⟩, ⟨m, u, e2, rfl⟩, hp⟩ := hG.pairs j a hj
    rw [pk_of hp]
    exact ⟨a, _, t, u, 0, rfl, hp, rfl, rfl⟩
  show wpAny _ _ _ _ _ { s with heap := h'.push (seqObj "list" (as.map Value.ref).toArray 0), toks := tk }
  refine wpAny_bind (wpAny_holding (wpAny_call_entry slot_list_sort ⟨_, hnew, rfl⟩ entry_list_sort (SrtO.list_sort_ord (s := { s with heap := h'.push (seqObj "list" (as.map Value.ref).toArray 0), toks := tk }) (SrtO.swo_lex (pk h')) hnew lz (fun h2 => SrtO.pairs_sortableO (s := { s with heap := h'.push (seqObj "list" (as.map Value.ref).toArray 0), toks := tk }) (by omega) (fun v hv => (isp v hv).keeps fun b o e _ => Heap.get?_push_of_some _ e) fun o e => ?_) fun out hs hb => ⟨_, rfl, ?_⟩) (args_list_sort _)))
  · have e' : some o = some (seqObj "list" (as.map Value.ref).toArray 0) := e.symm.trans hnew
    cases e'
    intro c
    exact absurd (Value.type.inj c) (by decide)
  · refine wpAny_pure ⟨_, rfl, ?_⟩
    obtain ⟨c, hat⟩ := sortedHeap_at (out := out.toArray) hnew
    have pm : out.Perm (as.map Value.ref) := hb.perm
    have pa : (out.map rfA).Perm as := by
      have := pm.map rfA
      rwa [rfA_map] at this
    have er := refs_of pm
    have old : ∀ b o, h'.get? b = some o → (sortedHeap (h'.push (seqObj "list" (as.map Value.ref).toArray 0)) h'.objs.size (as.map Value.ref) out.toArray).get? b = some o := fun b o e => by
      have lt := Heap.lt_size e
      rw [sortedHeap_old (Nat.ne_of_lt lt) (by rw [size_push']; exact Nat.lt_succ_of_lt lt)]
      exact Heap.get?_push_of_some _ e
    have pks : ∀ a ∈ as, ∃ x y t u, PySem.IsPair h' a (.int x t) (.int y u) := fun a ha => by
      obtain ⟨j, hj⟩ := List.mem_iff_getElem?.mp ha
      obtain ⟨x, y, ⟨n, t, e1, rfl⟩, ⟨m, u, e2, rfl⟩, hp⟩ := hG.pairs j a hj
      exact ⟨_, _, _, _, hp⟩
    have pkk : ∀ a ∈ as, pk (sortedHeap (h'.push (seqObj "list" (as.map Value.ref).toArray 0)) h'.objs.size (as.map Value.ref) out.toArray) (.ref a) = pk h' (.ref a) := fun a ha => by
      obtain ⟨x, y, t, u, hp⟩ := pks a ha
      rw [pk_of hp, pk_of (old _ _ hp)]
    refine h _ tk c h'.objs.size (out.map rfA) ((out.map rfA).map fun a => pk h' (.ref a)) (fun b o b1 b2 b3 b4 e => old _ _ (hk b o b1 b2 b3 b4 e)) (Nat.le_of_lt hlt) (fun q => ?_) (pa.nodup_iff.mpr nd) (fun a ha => ?_) ?_ ?_ ?_ (fun a ha => ?_) ?_
    · exact absurd (hG.there (pa.mem_iff.mp q)) (Nat.lt_irrefl _)
    · exact Nat.le_of_lt (hG.above a (pa.mem_iff.mp ha))
    · rw [← made_zip hl hG]
      exact pa.map _
    · have e : (out.map rfA).map (fun a => pk h' (.ref a)) = out.map (pk h') := by
        conv => rhs; rw [er]
        rw [List.map_map, List.map_map, List.map_map]; rfl
      rw [e]
      exact List.pairwise_map.mpr hs
    · exact List.map_congr_left fun a ha => (pkk a (pa.mem_iff.mp ha)).symm
    · obtain ⟨x, y, t, u, hp⟩ := pks a (pa.mem_iff.mp ha)
      exact ⟨x, y, t, u, old _ _ hp⟩
    · rw [← er]; exact hat
end
/-! ### by values -/
theorem Draws.mono {prog : Program} {w : World} {A : Around} {it : Addr} {fp : List Addr} {n n' : Nat} {P P' : Nat → Value → Prop} {St : Nat → Heap → Prop} (D : Draws prog w A it fp n P St) (e : n = n') (h : ∀ i v, P i v → P' i v) : Draws prog w A it fp n' P' St where
  live := D.live
  frame := D.frame
  item := fun i s Q E hi st hQ => D.item i s Q E (by omega) st fun x h' tk p => hQ x h' tk (h i x p)
  done := fun s Q E st hE => D.done s Q E (by rw [e]; exact st) hE
def NewTs : Hp → List (Int × Int) → (Hp → List Addr → Prop) → Prop
  | H, [], k => k H []
  | H, p :: ps, k => ∀ (a : Addr) (o : Obj), H a = none → o.dict = none → NewTs (upd H a (.frz o (.tup [.int p.1, .int p.2]))) ps fun H' as => k H' (a :: as)
def PZp (X : Cx) (e : Expr) (t : St → Hp → (List Int → List Int → Hp → Prop) → Prop) : Prop :=
  ∀ (pins : List (Addr × Obj)) (s : Shared) (σ : St) (H : Hp) (Q : List Int → List Int → Hp → Prop), Inv X pins σ H s → t σ H Q →
    wpAny (model X.prog X.w) X.A (eval e X.env) (fun x s' => ∃ (z TI TO i1 i2 : Addr) (fp1 fp2 : List Addr) (St1 St2 : Nat → Heap → Prop) (ns ms : List Int) (H' : Hp), x = .ref z ∧ ZipSep2 z TI TO i1 i2 fp1 fp2 ∧
      (∀ A : Around, A.handled = none → Draws X.prog X.w A i1 fp1 ns.length (IntP ns) St1) ∧ (∀ A : Around, A.handled = none → Draws X.prog X.w A i2 fp2 ms.length (IntP ms) St2) ∧ (∀ c ∈ fp1, c < s'.heap.objs.size) ∧ (∀ c ∈ fp2, c < s'.heap.objs.size) ∧
      ZSt z TI TO i1 i2 St1 St2 0 s'.heap ∧ (∀ c ∈ [z, TO, i1, i2], FpOk X pins H' c) ∧ Inv X pins σ H' s' ∧ ns.length ≤ sizeLine ∧ Q ns ms H') X.xe s
def tSortZ (t : St → Hp → (List Int → List Int → Hp → Prop) → Prop) : TE := fun σ H Q => t σ H fun ns ms H1 => ∀ ps : List (Int × Int), ps.Perm (ns.zip ms) → ps.Pairwise (fun p q => SrtO.lexB q p = false) →
  NewTs H1 ps fun H2 as => ∀ l, H2 l = none → Q (.ref l) (upd H2 l (.lst (as.map V.ref)))
section
variable {X : Cx} {e : Expr} {te : St → Hp → (List Int → List Int → Hp → Prop) → Prop}
theorem take_all {pins : List (Addr × Obj)} {σ : St} {s : Shared} {h' : Heap} {tk : Nat} {lo : Addr} (lw : ∀ (H : Hp) (b : Addr), lo ≤ b → H b = none → FpOk X pins H b) :
    ∀ (as : List Addr) (H1 : Hp) (k : Hp → List Addr → Prop), Inv X pins σ H1 { s with heap := h', toks := tk } → as.Nodup → (∀ a ∈ as, lo ≤ a ∧ H1 a = none ∧ ∃ x y t u, PySem.IsPair h' a (.int x t) (.int y u)) → NewTs H1 (as.map fun a => pk h' (.ref a)) k →
      ∃ H2, Inv X pins σ H2 { s with heap := h', toks := tk } ∧ k H2 as ∧ ∀ b, b ∉ as → H2 b = H1 b
  | [], H1, k, I1, _, _, h => ⟨H1, I1, h, fun _ _ => rfl⟩
  | a :: as, H1, k, I1, hn, hm, h => by
    obtain ⟨hb, hnone, x, y, t, u, hp⟩ := hm a (List.mem_cons_self ..)
    rw [List.nodup_cons] at hn
    have h0 := h a { cls := .type "tuple", data := .seq #[.int x t, .int y u] } hnone rfl
    have e9 : (fun a => pk h' (Value.ref a)) a = (x, y) := pk_of hp
    rw [e9] at h0
    have I2 : Inv X pins σ (upd H1 a (.frz { cls := .type "tuple", data := .seq #[.int x t, .int y u] } (.tup [.int x, .int y]))) { s with heap := h', toks := tk } :=
      I1.take (h' := h') (t' := tk) (fun b ob _ e => e) (lw _ _ hb hnone) ⟨hp, by show 2 ≤ sizeLine; decide, [.int x t, .int y u], .cons ⟨_, rfl⟩ (.cons ⟨_, rfl⟩ .nil), ⟨_, hp, rfl, _, rfl⟩⟩
    obtain ⟨H2, I3, g, q⟩ := take_all lw as _ _ I2 hn.2 (fun c hc => by
      obtain ⟨c1, c2, c3⟩ := hm c (List.mem_cons_of_mem _ hc)
      exact ⟨c1, by rw [upd_ne (fun z => hn.1 (by rw [← z]; exact hc))]; exact c2, c3⟩) h0
    refine ⟨H2, I3, g, fun b hb => ?_⟩
    rw [q b (fun z => hb (List.mem_cons_of_mem _ z)), upd_ne (fun z => hb (by rw [z]; exact List.mem_cons_self ..))]
theorem pe_sortZ {p pos : Pos} (hc : X.calm = true) (hg : Gl X "sorted") (hm : X.mg "sorted" = none) (he : PZp X e te) (na : starEach [e] X.env = (false, eval e X.env) :: starEach [] X.env := by rfl) : PE X (.Call (.Name "sorted" p) [e] [] pos) (tSortZ te) := by
  refine ⟨fun pins s σ H Q I h => ?_⟩
  refine Call_ (ld_blt I hg hm bt_sorted (PyProof.Rows.callWith_builtin1 (args_cons (thn (he pins s σ H _ I h) fun x s1 ⟨z, TI, TO, i1, i2, fp1, fp2, St1, St2, ns, ms, H1, ex, Z, D1, D2, f1, f2, st, fo, I1, hz, q⟩ => args_nil ?_) na) na))
  subst ex
  refine zsorted (I1.ok.hd hc) Z D1 D2 f1 f2 st (by omega) fun h' tk c l as ps hk hl hla nd hlo hpm hps he hpr hat => ?_
  have I2 : Inv X pins σ H1 { s1 with heap := h', toks := tk } := I1.turnedL (t' := tk) (ch := [z, TO, i1, i2]) (fun b o hb e => hk b o (fun q => hb (by simp [q])) (fun q => hb (by simp [q])) (fun q => hb (by simp [q])) (fun q => hb (by simp [q])) e) fo
  have h0 := q ps hpm hps
  rw [he] at h0
  obtain ⟨H2, I3, g, hn⟩ := take_all (lo := s1.heap.objs.size) (fun H b hb hn => I1.fpOk hb hn) as H1 _ I2 nd (fun a ha => ⟨hlo a ha, I1.hok.fresh (hlo a ha), hpr a ha⟩) h0
  have ln : H2 l = none := by rw [hn l hla]; exact I1.hok.fresh hl
  have lz : as.length ≤ sizeLine := by
    have e1 : as.length = ps.length := by rw [he, List.length_map]
    rw [e1, hpm.length_eq, List.length_zip]
    omega
  refine ⟨.ref l, upd H2 l (.lst (as.map V.ref)), I3.take (h' := h') (t' := tk) (fun b ob _ e => e) (I1.fpOk hl ln) ⟨by rw [List.length_map]; exact lz, as.map Value.ref, c, ?_, hat⟩, rfl, g l ln⟩
  clear hat ln g hn I3 h0 he hpr hlo nd hla lz
  induction as with
  | nil => exact .nil
  | cons a as ih => exact .cons rfl ih
end
/-! ### zip(l, range(n)) is made -/
abbrev zrH1 (h : Heap) (l1 : Addr) : Heap := h.push { cls := .type "list_iterator", data := .fields #[.ref l1, .int 0 0] }
abbrev zrH2 (h : Heap) (l1 : Addr) (n : Int) : Heap := (zrH1 h l1).push { cls := .type "range_iterator", data := .fields #[rawInt 0, rawInt (Builtin.Range.rangeSize 0 n 1), rawInt 1] }
abbrev zrH3 (h : Heap) (l1 : Addr) (n : Int) : Heap := (zrH2 h l1 n).push { cls := .type "tuple", data := .seq #[.ref h.objs.size, .ref (zrH1 h l1).objs.size] }
abbrev zrH4 (h : Heap) (l1 : Addr) (n : Int) : Heap := (zrH3 h l1 n).push { cls := .type "tuple", data := .seq #[.none, .none] }
abbrev zrH5 (h : Heap) (l1 : Addr) (n : Int) : Heap := (zrH4 h l1 n).push { cls := .type "zip", data := .fields #[.none, .bool false, .bool false, .ref (zrH2 h l1 n).objs.size, .ref (zrH3 h l1 n).objs.size] }
theorem meets_zr (l1 l2 : Addr) (xs : Array Value) (n : Int) (t u v : Tok) (hsm : Builtin.Range.small 0 n 1 = true) :
    Meets (Builtin.«zip.__new__» ⟨[.type "zip", .ref l1, .ref l2], []⟩) (fun _ R s => s.heap.IsList l1 xs ∧ IsRange s.heap l2 0 n 1 t u v ∧
      R (.ok (.ret (.ref (zrH4 s.heap l1 n).objs.size))) { s with heap := zrH5 s.heap l1 n }) :=
  .of_wp fun prog w A R s h => by
    obtain ⟨hp, g, d, tk, os⟩ := s; obtain ⟨hl1, hl2, h⟩ := h
    have hsub := sub_zip
    have hL1 : Heap.IsList (Shared.heap ⟨hp, g, d, tk, os⟩) l1 xs := hl1
    have hL2 : IsRange (Shared.heap ⟨hp.push { cls := .type "list_iterator", data := .fields #[.ref l1, .int 0 0] }, g, d, tk, os⟩) l2 0 n 1 t u v := Heap.get?_push_of_some _ hl2
    wp_walk using wpAny_pyIter_list hL1, wpAny_pyIter_range hL2 hsm
    exact ⟨_, rfl, h⟩
section
variable {prog : Program} {w : World} {A : Around} {E : Value → Shared → Prop} {s : Shared}
theorem call_zr {l1 l2 : Addr} {xs : Array Value} {n : Int} {t u v : Tok} {Q : Value → Shared → Prop} (hl1 : s.heap.IsList l1 xs) (hl2 : IsRange s.heap l2 0 n 1 t u v) (hsm : Builtin.Range.small 0 n 1 = true)
    (h : ∀ h', ZR h' (s.heap.objs.size + 4) (s.heap.objs.size + 2) (s.heap.objs.size + 3) .none (.bool false) → PySem.IsPair h' (s.heap.objs.size + 2) (.ref s.heap.objs.size) (.ref (s.heap.objs.size + 1)) →
      PySem.IsPair h' (s.heap.objs.size + 3) .none .none → h'.IsListIter s.heap.objs.size l1 0 → IsRangeIter h' (s.heap.objs.size + 1) 0 (Builtin.Range.rangeSize 0 n 1) 1 → h'.objs.size = s.heap.objs.size + 5 →
      (∀ c o, s.heap.get? c = some o → h'.get? c = some o) → Q (.ref (s.heap.objs.size + 4)) { s with heap := h' }) :
    wpAny (model prog w) A (call (.type "zip") [.ref l1, .ref l2]) Q E s := by
  refine callType_new F.called_zip (by decide) (F.typeCall_zip_2 _ _) (F.newCall_zip_2 _ _) (fun obj => F.args_object_init_3 obj _ _) F.entry_zip_new (meets_zr l1 l2 xs n t u v hsm) ⟨hl1, hl2, ?_⟩
  have z1 : (zrH1 s.heap l1).objs.size = s.heap.objs.size + 1 := Heap.size_push ..
  have z2 : (zrH2 s.heap l1 n).objs.size = s.heap.objs.size + 2 := by rw [Heap.size_push, z1]
  have z3 : (zrH3 s.heap l1 n).objs.size = s.heap.objs.size + 3 := by rw [Heap.size_push, z2]
  have z4 : (zrH4 s.heap l1 n).objs.size = s.heap.objs.size + 4 := by rw [Heap.size_push, z3]
  have z5 : (zrH5 s.heap l1 n).objs.size = s.heap.objs.size + 5 := by rw [Heap.size_push, z4]
  have g5 : (zrH5 s.heap l1 n).get? (zrH4 s.heap l1 n).objs.size = some _ := Heap.get?_push_size _ rfl
  have g4 : (zrH5 s.heap l1 n).get? (zrH3 s.heap l1 n).objs.size = some _ := Heap.get?_push_of_some _ (Heap.get?_push_size _ rfl)
  have g3 : (zrH5 s.heap l1 n).get? (zrH2 s.heap l1 n).objs.size = some _ := Heap.get?_push_of_some _ (Heap.get?_push_of_some _ (Heap.get?_push_size _ rfl))
  have g2 : (zrH5 s.heap l1 n).get? (zrH1 s.heap l1).objs.size = some _ := Heap.get?_push_of_some _ (Heap.get?_push_of_some _ (Heap.get?_push_of_some _ (Heap.get?_push_size _ rfl)))
  have g1 : (zrH5 s.heap l1 n).get? s.heap.objs.size = some _ := Heap.get?_push_of_some _ (Heap.get?_push_of_some _ (Heap.get?_push_of_some _ (Heap.get?_push_of_some _ (Heap.get?_push_size _ rfl))))
  show _ ∧ _
  rw [z2, z3, z4] at g5
  rw [z1, z2] at g3
  rw [z3] at g4
  rw [z1] at g2
  rw [z4]
  exact ⟨⟨_, g5, rfl⟩, h _ g5 g3 g4 ⟨_, g1, rfl, rfl⟩ g2 z5 fun c o x =>
    Heap.get?_push_of_some _ (Heap.get?_push_of_some _ (Heap.get?_push_of_some _ (Heap.get?_push_of_some _ (Heap.get?_push_of_some _ x))))⟩
end
def rgI (n : Nat) : List Int := (List.range n).map fun i : Nat => (i : Int)
theorem sep5 (n l1 : Nat) (fp2 : List Nat) (h1 : l1 < n) (m2 : n + 1 ∈ fp2) (f2 : ∀ c ∈ fp2, c = n + 1 ∨ c < n) : ZipSep2 (n + 4) (n + 2) (n + 3) n (n + 1) [n, l1] fp2 where
  TIz := show n + 2 ≠ n + 4 by omega
  TOz := show n + 3 ≠ n + 4 by omega
  TITO := show n + 2 ≠ n + 3 by omega
  TIi1 := show n + 2 ≠ n by omega
  mem1 := by simp
  zf1 := fun q => by
    have : n + 4 = n ∨ n + 4 = l1 := by simpa using q
    omega
  Tf1 := fun q => by
    have : n + 3 = n ∨ n + 3 = l1 := by simpa using q
    omega
  TIi2 := show n + 2 ≠ n + 1 by omega
  mem2 := m2
  zf2 := fun q => by
    have : n + 4 = n + 1 ∨ n + 4 < n := f2 _ q
    omega
  Tf2 := fun q => by
    have : n + 3 = n + 1 ∨ n + 3 < n := f2 _ q
    omega
  sep1_2 := fun q => by
    have : n = n + 1 ∨ n < n := f2 _ q
    omega
  sep2_1 := fun q => by
    have : n + 1 = n ∨ n + 1 = l1 := by simpa using q
    omega
section
variable {X : Cx} {a b : Expr} {ta tb : TE} {tr : St → Hp → (Int → Int → Hp → Prop) → Prop}
def tZll (K : PySem.W.Frag) (ta tb : TE) : St → Hp → (List Int → List Int → Hp → Prop) → Prop := fun σ H Q => ta σ H fun x H1 => tb σ H1 fun y H2 => ∃ p q ns ms, x = .ref p ∧ y = .ref q ∧ SqL K H2 p (ns.map V.int) ∧ SqL K H2 q (ms.map V.int) ∧ Q ns ms H2
def tZlr (K : PySem.W.Frag) (ta : TE) (tr : St → Hp → (Int → Int → Hp → Prop) → Prop) : St → Hp → (List Int → List Int → Hp → Prop) → Prop := fun σ H Q => ta σ H fun x H1 => tr σ H1 fun lo hi H2 => ∃ p ns, x = .ref p ∧ lo = 0 ∧ RgOk 0 hi ∧ SqL K H2 p (ns.map V.int) ∧ Q ns (rgI hi.toNat) H2
theorem fp5 {pins : List (Addr × Obj)} {σ : St} {H : Hp} {s : Shared} (I : Inv X pins σ H s) : ∀ c ∈ [s.heap.objs.size + 4, s.heap.objs.size + 3, s.heap.objs.size, s.heap.objs.size + 1], FpOk X pins H c := fun c hc => by
  have hle : s.heap.objs.size ≤ c := by
    have e' : c = s.heap.objs.size + 4 ∨ c = s.heap.objs.size + 3 ∨ c = s.heap.objs.size ∨ c = s.heap.objs.size + 1 := by simpa using hc
    rcases e' with q' | q' | q' | q' <;> rw [q'] <;> first | exact Nat.le_add_right _ _ | exact Nat.le_refl _
  exact I.fpOk hle (I.hok.fresh hle)
theorem vals_int {ns : List Int} {its : List Value} (rv : Vals (ns.map V.int) its) : ∀ (i : Nat) (v : Value), its.toArray[i]? = some v → IntP ns i v := by
  intro i v hv
  have e : its[i]? = some v := by simpa using hv
  have hl := rv.length
  rw [List.length_map] at hl
  have hi : i < ns.length := by
    have := (List.getElem?_eq_some_iff.mp e).1
    omega
  obtain ⟨u, hu, t, hu2⟩ := rv.get (i := i) (x := .int ns[i]) (by simp [hi])
  rw [hu] at e
  cases e
  exact ⟨ns[i], t, by simp [hi], hu2⟩
theorem pz_ll {p pos : Pos} (hg : Gl X "zip") (hm : X.mg "zip" = none) (ha : PE X a ta) (hb : PE X b tb) (na : starEach [a, b] X.env = (false, eval a X.env) :: starEach [b] X.env := by rfl) (nb : starEach [b] X.env = (false, eval b X.env) :: starEach [] X.env := by rfl) (hp : (backTo pos (starEach [b] X.env)).any (·.1) = false := by rfl) :
    PZp X (.Call (.Name "zip" p) [a, b] [] pos) (tZll X.K ta tb) := by
  intro pins s σ H Q I h
  refine Call_ (ld_blt I hg hm PyProof.Rows.boot_zip (PyProof.Rows.callWith_type1 (args_cons (thn (ha.run pins s σ H _ I h) fun v s1 ⟨x, H1, I1, r1, q1⟩ => one_arg hb I1 q1 (fun u s2 y H2 I2 r2 q => ?_) nb) na) na hp))
  obtain ⟨p, q0, ns, ms, rfl, rfl, hp1, hp2, qq⟩ := q
  cases r1; cases r2
  obtain ⟨its, rv, p1, z1⟩ := I2.list hp1
  obtain ⟨its2, rv2, p2, z2⟩ := I2.list hp2
  rw [List.length_map] at z1 z2
  have l1 := rv.length
  have l2 := rv2.length
  rw [List.length_map] at l1 l2
  refine call_zip_2 p1.isList p2.isList fun h' hz hTI hTO h1 h2 hsz hk => ?_
  have a1 := p1.lt
  have a2 := p2.lt
  refine ⟨s2.heap.objs.size + 4, s2.heap.objs.size + 2, s2.heap.objs.size + 3, s2.heap.objs.size, s2.heap.objs.size + 1, [s2.heap.objs.size, p], [s2.heap.objs.size + 1, q0], (fun i h => h.IsListIter s2.heap.objs.size p i ∧ h.IsList p its.toArray), (fun i h => h.IsListIter (s2.heap.objs.size + 1) q0 i ∧ h.IsList q0 its2.toArray), ns, ms, H2, rfl, sep5 _ _ _ a1 (by simp) (fun c hc => ?_), ?_, ?_, ?_, ?_, ⟨⟨.none, .bool false, .inl rfl, hz⟩, hTI, ⟨_, _, hTO⟩, ⟨h1, p1.isList.at fun o e => hk _ o e⟩, ⟨h2, p2.isList.at fun o e => hk _ o e⟩⟩, fp5 I2, I2.kept (t' := s2.toks) hk, z1, qq⟩
  · have e : c = s2.heap.objs.size + 1 ∨ c = q0 := by simpa using hc
    rcases e with e | e
    · exact .inl e
    · exact .inr (by rw [e]; exact a2)
  · exact fun A hh => Mp.Draws.mono (Draws.list (A := A) hh _ p (Nat.ne_of_lt a1) its.toArray) (by rw [List.size_toArray]; exact l1.symm) (vals_int rv)
  · exact fun A hh => Mp.Draws.mono (Draws.list (A := A) hh _ q0 (Nat.ne_of_lt (Nat.lt_succ_of_lt a2)) its2.toArray) (by rw [List.size_toArray]; exact l2.symm) (vals_int rv2)
  · intro c hc
    have e : c = s2.heap.objs.size ∨ c = p := by simpa using hc
    show c < h'.objs.size
    rw [hsz]
    rcases e with e | e
    · rw [e]; exact Nat.lt_add_of_pos_right (by decide)
    · rw [e]; exact Nat.lt_of_lt_of_le a1 (Nat.le_add_right _ _)
  · intro c hc
    have e : c = s2.heap.objs.size + 1 ∨ c = q0 := by simpa using hc
    show c < h'.objs.size
    rw [hsz]
    rcases e with e | e
    · rw [e]; exact Nat.add_lt_add_left (by decide) _
    · rw [e]; exact Nat.lt_of_lt_of_le a2 (Nat.le_add_right _ _)
theorem pz_lr {p pos : Pos} (hg : Gl X "zip") (hm : X.mg "zip" = none) (ha : PE X a ta) (hb : PRg X b tr) (na : starEach [a, b] X.env = (false, eval a X.env) :: starEach [b] X.env := by rfl) (nb : starEach [b] X.env = (false, eval b X.env) :: starEach [] X.env := by rfl) (hp : (backTo pos (starEach [b] X.env)).any (·.1) = false := by rfl) :
    PZp X (.Call (.Name "zip" p) [a, b] [] pos) (tZlr X.K ta tr) := by
  intro pins s σ H Q I h
  refine Call_ (ld_blt I hg hm PyProof.Rows.boot_zip (PyProof.Rows.callWith_type1 (args_cons (thn (ha.run pins s σ H _ I h) fun v s1 ⟨x, H1, I1, r1, q1⟩ => args_cons (thn (hb pins s1 σ H1 _ I1 q1) fun y s2 ⟨r, lo, hi, t, u, v', H2, ey, hr, I2, q⟩ => args_nil ?_) nb) na) na hp))
  obtain ⟨p, ns, rfl, rfl, ok, hp1, q⟩ := q
  subst ey
  cases r1
  obtain ⟨b1, b2, b3, b4, b5⟩ := ok
  obtain ⟨its, rv, p1, z1⟩ := I2.list hp1
  rw [List.length_map] at z1
  have l1 := rv.length
  rw [List.length_map] at l1
  refine call_zr p1.isList hr (small_one b1 b2 b3 b4) fun h' hz hTI hTO h1 h2 hsz hk => ?_
  have a1 := p1.lt
  have ln : (rgI hi.toNat).length = hi.toNat := by unfold rgI; simp
  refine ⟨s2.heap.objs.size + 4, s2.heap.objs.size + 2, s2.heap.objs.size + 3, s2.heap.objs.size, s2.heap.objs.size + 1, [s2.heap.objs.size, p], [s2.heap.objs.size + 1], (fun i h => h.IsListIter s2.heap.objs.size p i ∧ h.IsList p its.toArray), (fun i h => IsRangeIter h (s2.heap.objs.size + 1) (i : Nat) ((hi.toNat : Int) - (i : Nat)) 1), ns, rgI hi.toNat, H2, rfl, sep5 _ _ _ a1 (by simp) (fun c hc => .inl (by simpa using hc)), ?_, ?_, ?_, ?_, ⟨⟨.none, .bool false, .inl rfl, hz⟩, hTI, ⟨_, _, hTO⟩, ⟨h1, p1.isList.at fun o e => hk _ o e⟩, ?_⟩, fp5 I2, I2.kept (t' := s2.toks) hk, z1, q⟩
  · exact fun A hh => Mp.Draws.mono (Draws.list (A := A) hh _ p (Nat.ne_of_lt a1) its.toArray) (by rw [List.size_toArray]; exact l1.symm) (vals_int rv)
  · refine fun A hh => Mp.Draws.mono (St := fun i h => IsRangeIter h (s2.heap.objs.size + 1) (i : Nat) ((hi.toNat : Int) - (i : Nat)) 1) (n := hi.toNat) (P := fun i v => i < hi.toNat ∧ ∃ t, v = .int (i : Nat) t) ?_ ln.symm fun i v ⟨hlt, t, e⟩ => ⟨(i : Nat), t, by unfold rgI; simp [hlt], e⟩
    have D := dr_rng (prog := X.prog) (w := X.w) (A := A) hh (s2.heap.objs.size + 1) hi.toNat
    exact ⟨D.live, D.frame, fun i s Q E hi st hQ => D.item i s Q E hi st fun x h' tk p => hQ x h' tk ⟨hi, p⟩, D.done⟩
  · intro c hc
    have e : c = s2.heap.objs.size ∨ c = p := by simpa using hc
    show c < h'.objs.size
    rw [hsz]
    rcases e with e | e
    · rw [e]; exact Nat.lt_add_of_pos_right (by decide)
    · rw [e]; exact Nat.lt_of_lt_of_le a1 (Nat.le_add_right _ _)
  · intro c hc
    have e : c = s2.heap.objs.size + 1 := by simpa using hc
    show c < h'.objs.size
    rw [hsz, e]; exact Nat.add_lt_add_left (by decide) _
  · have e := rangeSize_nat 0 hi
    rw [e] at h2
    show IsRangeIter h' _ _ _ 1
    have e2 : (hi - 0).toNat = hi.toNat := by omega
    rw [e2] at h2
    simpa using h2
end
end Mp

/-! NH: sorted(zip(..)) by data. -/
namespace Mp
open PySem PySem.Spec L2
open PyProof.Rows hiding St
/-! ### by data -/
def lexle (p q : Int × Int) : Bool := !SrtO.lexB q p
def psort (l : List (Int × Int)) : List (Int × Int) := l.mergeSort lexle
theorem lexle_iff {p q : Int × Int} : lexle p q = true ↔ p.1 < q.1 ∨ (p.1 = q.1 ∧ p.2 ≤ q.2) := by
  unfold lexle
  rw [Bool.not_eq_true', SrtO.lexB_no]
  omega
theorem psort_perm (l : List (Int × Int)) : (psort l).Perm l := List.mergeSort_perm l _
theorem psort_sorted (l : List (Int × Int)) : (psort l).Pairwise (fun p q => SrtO.lexB q p = false) := by
  have h := List.pairwise_mergeSort (le := lexle) (fun a b c h1 h2 => by
    rw [lexle_iff] at *
    omega) (fun a b => by
    rw [Bool.or_eq_true, lexle_iff, lexle_iff]
    omega) l
  refine h.imp fun {a b} q => ?_
  unfold lexle at q
  simpa using q
theorem pperm_eq : ∀ {l l' : List (Int × Int)}, l.Perm l' → l.Pairwise (fun p q => SrtO.lexB q p = false) → l'.Pairwise (fun p q => SrtO.lexB q p = false) → l = l'
  | [], l', p, _, _ => (List.Perm.nil_eq p)
  | a :: l, [], p, _, _ => by have := p.length_eq; simp at this
  | a :: l, b :: l', p, h1, h2 => by
    have h1' := List.pairwise_cons.mp h1
    have h2' := List.pairwise_cons.mp h2
    have e : a = b := by
      rcases List.mem_cons.mp (p.mem_iff.mp (List.mem_cons_self : a ∈ a :: l)) with e | ha
      · exact e
      · rcases List.mem_cons.mp (p.mem_iff.mpr (List.mem_cons_self : b ∈ b :: l')) with e | hb
        · exact e.symm
        · have q1 := SrtO.lexB_no.mp (h1'.1 b hb)
          have q2 := SrtO.lexB_no.mp (h2'.1 a ha)
          exact Prod.ext (by omega) (by omega)
    subst e
    rw [pperm_eq ((List.perm_cons a).mp p) h1'.2 h2'.2]
theorem psort_unique {l l' : List (Int × Int)} (p : l'.Perm l) (s : l'.Pairwise (fun p q => SrtO.lexB q p = false)) : l' = psort l := pperm_eq (p.trans (psort_perm l).symm) s (psort_sorted l)
def prD (p : Int × Int) : D := .tup [.int p.1, .int p.2]
def szO : D → List D → Option (List D)
  | .lst xs, ys => match ints? xs, ints? ys with
    | some ns, some ms => some ((psort (ns.zip ms)).map prD)
    | _, _ => none
  | _, _ => none
variable {J : Type}
def iLs (f : Ev J) (m : Sd) (j : J) (P : List D → J → Prop) (E : XP J) : Prop := f m j (fun d j1 => ∃ ys, d = .lst ys ∧ P ys j1) E
def eSZ (fa : Ev J) (ib : Iv J) (m : Sd) (j : J) (P : D → J → Prop) (E : XP J) : Prop := fa m j (fun x j1 => ib m j1 (fun ys j2 => ys.length ≤ LINE ∧ ∃ zs, szO x ys = some zs ∧ P (.lst zs) j2) E) E
instance {f : Ev J} [ha : MoE f] : MoA (iLs f) := ⟨fun h q x => ha.mo h (fun _ _ ⟨b, e, p⟩ => ⟨b, e, q _ _ p⟩) x⟩
instance {fa : Ev J} {ib : Iv J} [ha : MoE fa] [hb : MoA ib] : MoE (eSZ fa ib) := ⟨fun h q x => ha.mo h (fun _ _ h1 => hb.mo h1 (fun _ _ ⟨l, zs, e, p⟩ => ⟨l, zs, e, q _ _ p⟩) x) x⟩
section
variable {S : Js J} {B : Bs} {M : Nat → Bool} {W : WX} {X : Cx} {a b : Expr} {pos p tpos q0 q1 p2 pos2 : Pos} {fa fb : Ev J} {ib : Iv J}
theorem newts_ok {r : St} {m : Sd} {j : J} : ∀ (ps : List (Int × Int)) (g : Gh) (H : Hp) (k : Hp → List Addr → Prop), Ok S B g M r H m j →
    (∀ g' H' as, Le g g' → Ok S B g' M r H' m j → RpL S g'.F (ps.map prD) (as.map V.ref) → k H' as) → NewTs H ps k
  | [], g, H, k, ok, q => q g H [] (Le.refl g) ok .nil
  | x :: ps, g, H, k, ok, q => fun a o hn hd => by
    obtain ⟨n1, n2, n3, n4⟩ := ok.b.hn hn
    have l1 : Le g (g.frz a (.frz o (.tup [.int x.1, .int x.2]))) := Le.frz ok.b.fg n2
    refine newts_ok ps (g.frz a (.frz o (.tup [.int x.1, .int x.2]))) _ _ ⟨ok.b.frz _ hn, ok.s.le l1⟩ fun g' H' as l ok' rl => q g' H' (a :: as) (l1.trans l) ok' (.cons (.tup (.inl ⟨o, l.f _ _ upd_same, hd⟩) (.cons (.int _) (.cons (.int _) .nil))) rl)
theorem sz_end {g1 g : Gh} {r : St} {H1 : Hp} {m : Sd} {j1 : J} {l : List (Int × Int)} {Q : VK} (l1 : Le g g1) (ok1 : Ok S B g1 M r H1 m j1)
    (q : ∀ g' v H', Le g g' → Ok S B g' M r H' m j1 → Val S g g' .fresh (.lst ((psort l).map prD)) v → Q v H') :
    ∀ ps : List (Int × Int), ps.Perm l → ps.Pairwise (fun p q => SrtO.lexB q p = false) → NewTs H1 ps fun H2 as => ∀ p, H2 p = none → Q (.ref p) (upd H2 p (.lst (as.map V.ref))) := fun ps hp hs => by
  obtain rfl := psort_unique hp hs
  refine newts_ok _ g1 H1 _ ok1 fun g' H' as l2 ok' rl p hn => ?_
  obtain ⟨n1, n2, n3, n4⟩ := ok'.b.hn hn
  exact q (g'.see p (.lst (as.map V.ref))) _ _ ((l1.trans l2).trans (Le.see n2)) ⟨ok'.b.see _ hn, ok'.s.le (Le.see n2)⟩ ⟨p, rfl, (l1.trans l2).g.free n2, n1, .inl ⟨_, _, rfl, upd_same, rl⟩⟩
theorem e_sortZl (hK : X.K = S.K) (hms : X.mg "sorted" = none) (hm : X.mg "zip" = none) (ha : PE X a (rdE S B M W .clean fa)) (hb : PE X b (rdE S B M W .clean fb)) (hgs : Gl X "sorted" := by rfl) (hg : Gl X "zip" := by rfl) (hc : X.calm = true := by rfl) (na : starEach [a, b] X.env = (false, eval a X.env) :: starEach [b] X.env := by rfl) (nb : starEach [b] X.env = [(false, eval b X.env)] := by rfl)
    (hp : (backTo pos (starEach [b] X.env)).any (·.1) = false := by rfl) (hs2 : starEach [.Call (.Name "zip" p) [a, b] [] pos] X.env = [(false, eval (.Call (.Name "zip" p) [a, b] [] pos) X.env)] := by rfl) :
    PE X (.Call (.Name "sorted" q0) [.Call (.Name "zip" p) [a, b] [] pos] [] q1) (rdE S B M W .fresh (eSZ fa (iLs fb))) :=
  PE.imp (pe_sortZ hc hgs hms (pz_ll hg hm ha hb na nb hp) hs2) fun r H Q ⟨g, m, j, P, E, ok, hf, q, xo⟩ => by
    refine ⟨g, m, j, _, E, ok, hf, fun d j1 g1 v H1 h1 l1 ok1 w => ⟨g1, m, _, _, E, ok1, h1, fun d2 j2 g2 v2 H2 hh l2 ok2 w2 => ?_, xo.le l1.f⟩, xo⟩
    obtain ⟨ys, rfl, _, zs, hz, hP⟩ := hh
    unfold szO at hz
    split at hz
    · split at hz
      · rename_i xs _ ns ms e1 e2
        cases hz
        have hx := ints?_some e1
        have hy := ints?_some e2
        subst hx hy
        obtain ⟨p1, vs, rfl, ha, ra⟩ := lst_of (w.le l2)
        obtain ⟨p2, ws, rfl, hb, rb⟩ := lst_of w2
        obtain rfl := ra.of_ints
        obtain rfl := rb.of_ints
        have fh := ok2.b.fg.trans ok2.b.gh
        exact ⟨p1, p2, ns, ms, rfl, rfl, .of (fh _ _ ha), .of (fh _ _ hb), sz_end (l1.trans l2) ok2 fun g' v H' => q _ _ g' v H' hP⟩
      · cases hz
    · cases hz
theorem ints?_rng (n : Nat) : ints? (rngD 0 n) = some (rgI n) := by
  have e : rngD 0 n = (rgI n).map D.int := by
    have := rg_eq 0 (n : Int)
    simp only [Int.sub_zero, Int.toNat_natCast, Int.zero_add] at this
    exact this
  rw [e]; exact ints?_map _
theorem e_sortZr (hK : X.K = S.K) (hms : X.mg "sorted" = none) (hm : X.mg "zip" = none) (hmr : X.mg "range" = none) (ha : PE X a (rdE S B M W .clean fa)) (hb : PE X b (rdE S B M W .mix fb)) (hgs : Gl X "sorted" := by rfl) (hg : Gl X "zip" := by rfl) (hgr : Gl X "range" := by rfl) (hc : X.calm = true := by rfl) (nn : starEach [b] X.env = [(false, eval b X.env)] := by rfl)
    (na : starEach [a, .Call (.Name "range" p2) [b] [] pos2] X.env = (false, eval a X.env) :: starEach [.Call (.Name "range" p2) [b] [] pos2] X.env := by rfl) (nb : starEach [.Call (.Name "range" p2) [b] [] pos2] X.env = [(false, eval (.Call (.Name "range" p2) [b] [] pos2) X.env)] := by rfl)
    (hp : (backTo pos (starEach [.Call (.Name "range" p2) [b] [] pos2] X.env)).any (·.1) = false := by rfl) (hs2 : starEach [.Call (.Name "zip" p) [a, .Call (.Name "range" p2) [b] [] pos2] [] pos] X.env = [(false, eval (.Call (.Name "zip" p) [a, .Call (.Name "range" p2) [b] [] pos2] [] pos) X.env)] := by rfl) :
    PE X (.Call (.Name "sorted" q0) [.Call (.Name "zip" p) [a, .Call (.Name "range" p2) [b] [] pos2] [] pos] [] q1) (rdE S B M W .fresh (eSZ fa (iRng1 fb))) :=
  PE.imp (pe_sortZ hc hgs hms (pz_lr hg hm ha (prg_1 hgr hmr hb nn) na nb hp) hs2) fun r H Q ⟨g, m, j, P, E, ok, hf, q, xo⟩ => by
    refine ⟨g, m, j, _, E, ok, hf, fun d j1 g1 v H1 h1 l1 ok1 w => ⟨g1, m, _, _, E, ok1, h1, fun d2 j2 g2 v2 H2 hh l2 ok2 w2 => ?_, xo.le l1.f⟩, xo⟩
    obtain ⟨n, rfl, c1, c2, hl, zs, hz, hP⟩ := hh
    unfold szO at hz
    split at hz
    · rw [ints?_rng] at hz
      split at hz
      · rename_i xs _ ns ms e1 e2
        cases e2
        cases hz
        have hx := ints?_some e1
        subst hx
        obtain ⟨p1, vs, rfl, ha, ra⟩ := lst_of (w.le l2)
        obtain rfl := ra.of_ints
        have fh := ok2.b.fg.trans ok2.b.gh
        have e0 : n.toNat = (n - 0).toNat := by omega
        rw [e0] at hl
        have hL : LIM = 2 ^ 61 := rfl
        exact ⟨n, int_of w2, p1, ns, rfl, rfl, rg_ok (by omega) (by omega) c1 c2 hl, .of (fh _ _ ha), sz_end (l1.trans l2) ok2 fun g' v H' => q _ _ g' v H' hP⟩
      · cases hz
    · cases hz
variable {m : Sd} {j : J} {PE' : D → J → Prop} {PA : List D → J → Prop} {E : XP J}
@[simp ↓] theorem a_ils : iLs fb m j PA E = fb m j (fun d j1 => ∃ ys, d = .lst ys ∧ PA ys j1) E := rfl
@[simp ↓] theorem a_esz : eSZ fa ib m j PE' E = fa m j (fun x j1 => ib m j1 (fun ys j2 => ys.length ≤ LINE ∧ ∃ zs, szO x ys = some zs ∧ PE' (.lst zs) j2) E) E := rfl
end
@[simp] theorem sz_l {ns ms : List Int} : szO (.lst (ns.map D.int)) (ms.map D.int) = some ((psort (ns.zip ms)).map prD) := by
  unfold szO
  simp only [ints?_map]
theorem sz_r {ns : List Int} {n : Nat} : szO (.lst (ns.map D.int)) (rngD 0 n) = some ((psort (ns.zip (rgI n))).map prD) := by
  unfold szO
  simp only [ints?_map, ints?_rng]
/-! ### len(set(x)), x a list or a tuple -/
def lenSetB : D → Option D
  | .lst xs => slI xs
  | .tup xs => if xs.length < 64 then slI xs else none
  | _ => none
def tLenSetB (K : PySem.W.Frag) (ta : TE) : TE := fun σ H Q => ta σ H fun x H1 => ∃ (l : Addr) (ns : List Int), x = V.ref l ∧ ((SqL K H1 l (ns.map V.int) ∧ ns.length < 1000) ∨ (SqT K H1 l (ns.map V.int) ∧ ns.length < 64)) ∧ Q (.int (ssort ns).length) H1
section
variable {X : Cx} {a : Expr} {ta : TE} {p p2 q pos : Pos}
theorem pe_lenSetB (hc : X.calm = true) (hg : Gl X "len") (hm : X.mg "len" = none) (hg2 : Gl X "set") (hm2 : X.mg "set" = none) (ha : PE X a ta)
    (na : starEach [a] X.env = (false, eval a X.env) :: starEach [] X.env := by rfl) : PE X (.Call (.Name "len" p) [.Call (.Name "set" p2) [a] [] q] [] pos) (tLenSetB X.K ta) := by
  refine ⟨fun pins s σ H Q I h => ?_⟩
  refine Call_ (ld_blt I hg hm PySem.boot_len ?_)
  refine PyProof.Rows.callWith_builtin1 (PyProof.Rows.args_cons ?_ rfl) rfl rfl
  refine Call_ (ld_blt I hg2 hm2 boot_set ?_)
  refine PyProof.Rows.callWith_type1 (PyProof.Rows.args_cons (thn (ha.run pins s σ H _ I h) fun v s1 ⟨x, H1, I1, r1, q1⟩ => PyProof.Rows.args_nil ?_) na) na rfl
  obtain ⟨l, ns, rfl, hq, q1⟩ := q1
  cases r1
  have := ssort_len ns
  rcases hq with ⟨hq, h1⟩ | ⟨hq, h1⟩
  · obtain ⟨its, r, pl, hz⟩ := I1.list hq
    have hl : its.toArray.size = ns.length := by rw [List.size_toArray, ← r.length, List.length_map]
    refine call_set_list (I1.ok.hd hc) pl.isList (ns := ns) (by simpa using r.ints) (by unfold scanBound; omega) fun h' tk hS hk => ?_
    rw [hl, met_len ns] at hS
    refine PyProof.Rows.args_nil ?_
    obtain ⟨o, es, ep, t, ho, hex, hd, _, _, _, hf, hn⟩ := hS
    have I2 : Inv X pins σ H1 { s1 with heap := h', toks := tk } := I1.kept fun b o e => hk b o (Heap.lt_size e) e
    refine call_len_set ho hex hd hf (by rw [hn] <;> omega) ⟨.int (ssort ns).length, H1, I2.tok _, ⟨_, by rw [hn]⟩, q1⟩
  · obtain ⟨its, rv, hT, _⟩ := I1.tuple hq
    refine call_set_tupI ns (I1.ok.hd hc) hT (by simpa using rv.ints) (by unfold scanBound; omega) fun h' tk c hS hle hk => ?_
    refine PyProof.Rows.args_nil ?_
    obtain ⟨o, es, ep, t, ho, hex, hd, _, nd, mem, _, hf, hn, _⟩ := hS
    have I2 : Inv X pins σ H1 { s1 with heap := h', toks := tk } := I1.kept fun b o e => hk b o e
    have e : (ssort ns).length = es.size := by
      rw [← Array.length_toList, ← List.length_map (f := keyOf)]
      refine List.Perm.length_eq ((List.perm_ext_iff_of_nodup ?_ nd).mpr fun k => ?_)
      · exact (ssort_up ns).imp fun {a b} h => by omega
      · rw [ssort_mem, ← mem k]; simp
    rw [e] at q1
    refine call_len_set ho hex hd hf (by rw [hn] <;> omega) ⟨.int es.size, H1, I2.tok _, ⟨_, rfl⟩, q1⟩
end
section
variable {S : Js J} {B : Bs} {M : Nat → Bool} {W : WX} {X : Cx} {a : Expr} {fa : Ev J} {p p2 q pos : Pos}
theorem e_lenSetB {k : Bool} (hK : X.K = S.K) (hm : X.mg "len" = none) (hm2 : X.mg "set" = none) (ha : PE X a (rdE S B M W (ofB k) fa)) (hc : X.calm = true := by rfl) (hg : Gl X "len" := by rfl) (hg2 : Gl X "set" := by rfl)
    (na : starEach [a] X.env = (false, eval a X.env) :: starEach [] X.env := by rfl) : PE X (.Call (.Name "len" p) [.Call (.Name "set" p2) [a] [] q] [] pos) (rdE S B M W .clean (eUn lenSetB fa)) :=
  PE.imp (pe_lenSetB hc hg hm hg2 hm2 ha na) fun R H Q ⟨g, m, j, P, E, ok, hf, q, xo⟩ => by
    refine ⟨g, m, j, _, E, ok, hf, ?_, xo⟩
    rintro x j1 g1 v1 H1 ⟨d, h3, pd⟩ l1 ok1 w1
    have w2 := rp_hp w1
    have hh : Same (hp k g1) H1 := by
      cases k
      · exact ok1.b.gh
      · exact ok1.b.fg.trans ok1.b.gh
    cases x with
    | lst ys =>
      obtain ⟨ns, rfl, h64, ed⟩ := slI_some h3
      obtain ⟨l, vs, rfl, h1, h2⟩ := lst_of w2
      have hv := RpL.of_ints h2
      subst hv
      subst ed
      exact ⟨l, ns, rfl, .inl ⟨.of (hh l _ h1), h64⟩, q _ _ _ _ _ pd l1 ok1 (.int _)⟩
    | tup ys =>
      have h3' : (if ys.length < 64 then slI ys else none) = some d := h3
      by_cases c : ys.length < 64
      · rw [if_pos c] at h3'
        obtain ⟨ns, rfl, h64, ed⟩ := slI_some h3'
        obtain ⟨l, vs, rfl, h1, h2⟩ := tup_of w2
        have hv := RpL.of_ints h2
        subst hv
        subst ed
        exact ⟨l, ns, rfl, .inr ⟨hK ▸ sqT_same hh h1.t, by simpa using c⟩, q _ _ _ _ _ pd l1 ok1 (.int _)⟩
      · rw [if_neg c] at h3'; cases h3'
    | _ => cases h3
end
theorem lset_tI {ns : List Int} (h : ns.length < 64) : lenSetB (.tup (ns.map D.int)) = some (.int (ssort ns).length) := by
  show (if (ns.map D.int).length < 64 then slI (ns.map D.int) else none) = _
  rw [if_pos (by simpa using h)]
  exact slI_of (by omega)
end Mp

/-! NI: a for over an owned list (or enumerate of it): the list is frozen, the slot forgotten. -/
namespace Mp
open PySem PySem.Spec L2
open PyProof.Rows hiding St
variable {J : Type}
abbrev Jv (J : Type) := Sd → J → (List D → Sd → J → Prop) → XP J → Prop
class MoJ (f : Jv J) : Prop where
  mo : ∀ {m : Sd} {j : J} {P P' : List D → Sd → J → Prop} {E E' : XP J}, f m j P E → (∀ d m' j', P d m' j' → P' d m' j') → (∀ e m' j', E e m' j' → E' e m' j') → f m j P' E'
def rdJ (S : Js J) (B : Bs) (M : Nat → Bool) (W : WX) (w : Bool) (f : Jv J) : TI := fun r H R => ∃ g m j P E, Ok S B g M r H m j ∧ f m j P E ∧
  (∀ ds m' j' g' H' Jt, P ds m' j' → Same g.F g'.F → Ok S B g' M r H' m' j' → WalkD S Jt ds true w g' → R Jt H') ∧ XOut S B M W g E
def sForJ (fj : Jv J) (γ : Gv) (fb : Sv J) (m : Sd) (j : J) (P : Fl → Sd → J → Prop) (E : XP J) : Prop := fj m j (fun ds m1 j1 => forW γ fb ds m1 j1 P E) E
instance {fj : Jv J} {γ : Gv} {fb : Sv J} [hi : MoJ fj] [hb : MoS fb] : MoS (sForJ fj γ fb) := ⟨fun h q x => hi.mo h (fun _ _ _ p => forW_mo p q x) x⟩
def jSeq (i : Nat) (m : Sd) (j : J) (P : List D → Sd → J → Prop) (E : XP J) : Prop := ∃ ds, m[i]? = some (some (.lst ds)) ∧ P ds (m.set i none) j
def jEnm (i : Nat) (m : Sd) (j : J) (P : List D → Sd → J → Prop) (E : XP J) : Prop := ∃ ds, m[i]? = some (some (.lst ds)) ∧ P (enumD ds) (m.set i none) j
instance {i : Nat} : MoJ (J := J) (jSeq i) := ⟨fun ⟨ds, e, p⟩ q _ => ⟨ds, e, q _ _ _ p⟩⟩
instance {i : Nat} : MoJ (J := J) (jEnm i) := ⟨fun ⟨ds, e, p⟩ q _ => ⟨ds, e, q _ _ _ p⟩⟩
section
variable {S : Js J} {B : Bs} {M : Nat → Bool} {W : WX} {X : Cx} {tg iter : Expr} {body : List Stmt} {pos p : Pos} {fb : Sv J} {fj : Jv J} {γ : Gv} {ks : List Nat} {w : Bool} {g : Gh} {r : St} {H : Hp} {m : Sd} {j : J} {i : Nat} {ds : List D} {x : Str}
theorem set_none {i k : Nat} {d : D} (h : (m.set i none)[k]? = some (some d)) : k ≠ i ∧ m[k]? = some (some d) := by
  rw [List.getElem?_set] at h
  by_cases e : i = k
  · rw [if_pos e] at h
    split at h <;> cases h
  · rw [if_neg e] at h
    exact ⟨fun z => e z.symm, h⟩
theorem Ok.eat (ok : Ok S B g M r H m j) (hM : M i = true) (h : m[i]? = some (some (.lst ds))) :
    ∃ a vs g', r[i]? = some (some (.ref a)) ∧ Same g.F g'.F ∧ Ok S B g' M r H (m.set i none) j ∧ g'.F a = some (.lst vs) ∧ RpL S g'.F ds vs := by
  obtain ⟨a, h1, n, ⟨xs, vs, e1, e2, t⟩ | ⟨kds, kvs, e1, _⟩ | ⟨kds, kvs, e1, _⟩⟩ := ok.s.ow i _ h hM
  · cases e1
    have sf : Same g.F (upd g.F a (.lst vs)) := same_new n
    refine ⟨a, vs, ⟨upd g.F a (.lst vs), g.G, g.A⟩, h1, sf, ⟨⟨?_, ok.b.gh, ok.b.ga, S.frame ok.b.jr sf fun _ _ => rfl, fun b o e => sf _ _ (ok.b.f0 _ _ e), ok.b.g0, ok.b.a0, ok.b.h0, ok.b.h1, ok.b.sm⟩, ⟨?_, ?_, ?_, ?_⟩⟩, upd_same, t.mono sf⟩
    · intro b o e
      replace e : upd g.F a (.lst vs) b = some o := e
      show g.G b = some o
      by_cases c : b = a
      · subst c
        rw [show upd g.F b (.lst vs) b = some (.lst vs) from upd_same] at e
        cases e; exact e2
      · rw [show upd g.F a (.lst vs) b = g.F b from upd_ne c] at e
        exact ok.b.fg _ _ e
    · rw [List.length_set]; exact ok.s.len
    · intro k d hk hMk
      obtain ⟨v, q1, q2⟩ := ok.s.fr k d (set_none hk).2 hMk
      exact ⟨v, q1, q2.mono sf⟩
    · intro k d hk hMk
      obtain ⟨nk, hk'⟩ := set_none hk
      obtain ⟨b, q1, q2, q3⟩ := ok.s.ow k d hk' hMk
      have nb : b ≠ a := fun z => nk (ok.s.dj k i a d (.lst ds) hk' h hMk hM (by rw [← z]; exact q1) h1)
      refine ⟨b, q1, (upd_ne nb).trans q2, ?_⟩
      rcases q3 with ⟨xs, ws, c1, c2, c3⟩ | ⟨kds, kvs, c1, c2, c3, c4⟩ | ⟨kds, kvs, c1, c2, c3, c4⟩
      · exact .inl ⟨xs, ws, c1, c2, c3.mono sf⟩
      · exact .inr (.inl ⟨kds, kvs, c1, c2, c3, c4.mono sf⟩)
      · exact .inr (.inr ⟨kds, kvs, c1, c2, c3, c4.mono sf⟩)
    · intro k l b d e hk hl hMk hMl r1 r2
      exact ok.s.dj k l b d e (set_none hk).2 (set_none hl).2 hMk hMl r1 r2
  · cases e1
  · cases e1
theorem j_seq {tg : Expr} (hK : X.K = S.K) (hM : M i = true) (hN : X.N[i]? = some x) (hv : Vis X.env.scope x) (hd : (x == ("__debug__" : Str)) = false) (hcd : (x == ("__classdict__" : Str)) = false) : PI X tg (.Name x pos) (rdJ S B M W false (jSeq i)) :=
  PI.imp (pi_list (pe_var hN hv hd hcd)) fun r H R ⟨g, m, j, P, E, ok, ⟨ds, he, pp⟩, q, xo⟩ => by
    obtain ⟨a, vs, g', h1, sf, ok', ha, ra⟩ := ok.eat hM he
    exact ⟨_, h1, a, rfl, ⟨vs, .of ((ok'.b.fg.trans ok'.b.gh) _ _ ha)⟩, q _ _ _ g' H _ pp sf ok' (walkD_seq hK (.inl ha) ok'.b.fg ra)⟩
theorem j_enm {elts : List Expr} {kk : Nat} {tpos : Pos} {q0 : Pos} (hM : M i = true) (hN : X.N[i]? = some x) (hv : Vis X.env.scope x) (hd : (x == ("__debug__" : Str)) = false) (hcd : (x == ("__classdict__" : Str)) = false) (hg : Gl X "enumerate") (hm : X.mg "enumerate" = none) (hs : starEach [.Name x q0] X.env = [(false, eval (.Name x q0) X.env)]) :
    PI X (.Tuple elts kk tpos) (.Call (.Name "enumerate" p) [.Name x q0] [] pos) (rdJ S B M W true (jEnm i)) :=
  PI.imp (pi_enum hg hm (pa_cons (pe_var hN hv hd hcd) pa_nil hs) hs) fun r H R ⟨g, m, j, P, E, ok, ⟨ds, he, pp⟩, q, xo⟩ => by
    obtain ⟨a, vs, g', h1, sf, ok', ha, ra⟩ := ok.eat hM he
    refine ⟨_, h1, a, vs, rfl, .of ((ok'.b.fg.trans ok'.b.gh) _ _ ha), q _ _ _ g' H _ pp sf ok' ?_⟩
    unfold WalkD
    rw [enumD_length, ra.length]
    refine (walk_enum (K := X.K) (a := a) (xs := vs)).mono (fun H s => .of (s _ _ ha)) fun i H x H' hi _ y => ?_
    obtain ⟨T, x1, y1, e1, e2, e3, e4, e5⟩ := y
    obtain ⟨d, h2, h3⟩ := ra.get' e5
    cases e4
    exact ⟨_, enumD_get h2, .inr (.inl ⟨rfl, T, _, _, e1, e2, e3, rfl, .cons (.int _) (.cons h3 .nil)⟩)⟩
theorem s_forJ (hp : PassesOwn (model X.prog X.w) X.A X.env X.xe) (hc : X.calm = true) (hi : PI X tg iter (rdJ S B M W w fj)) (hg : PG X tg (rdG S B M w ks γ)) (hb : PSs X body (rdS S B M W fb)) (hs : ∀ x, foldedSetIterable iter X.env x = pure x) :
    PS X (.For tg iter body [] pos) (rdS S B M W (sForJ fj γ fb)) :=
  PS.imp (ps_for hp hc hi hg hb hs) fun E r H ⟨g, m, j, P, Ep, ok, hf, q, xo⟩ => by
    refine ⟨g, m, j, _, Ep, ok, hf, fun ds m1 j1 g1 H1 Jt hf l1 ok1 wk => ?_, xo⟩
    refine for_it wk (fun i r H => ∃ g2 m2 j2, Same g1.F g2.F ∧ Ok S B g2 M r H m2 j2 ∧ forW γ fb (ds.drop i) m2 j2 P Ep) ⟨g1, m1, j1, Same.refl _, ok1, by rw [List.drop_zero]; exact hf⟩ ?_ ?_ ?_
    · rintro i r2 H2 hi ⟨g2, m2, j2, l2, ok2, h2⟩
      exact l2.trans (ok2.b.fg.trans ok2.b.gh)
    · rintro i y r2 H2 H2' hi ⟨g2, m2, j2, l2, ok2, h2⟩ ⟨dd, hdd, yy⟩
      have hdrop : ds.drop i = dd :: ds.drop (i + 1) := by
        obtain ⟨hlt, he⟩ := List.getElem?_eq_some_iff.mp hdd
        rw [List.drop_eq_getElem_cons hlt, he]
      rw [hdrop] at h2
      obtain ⟨m3, hm3, h2⟩ := h2
      have item : ∃ g3, Le g2 g3 ∧ Ok S B g3 M r2 H2' m2 j2 ∧ RpX S g3.F w dd y := by
        rcases yy with ⟨rfl, rp⟩ | ⟨hw, T, vs, es, rfl, hT, rfl, rfl, rl⟩ | ⟨T, o, vs, es, rfl, hT, hdo, rfl, rfl, rl⟩
        · exact ⟨g2, Le.refl _, ok2, .inl (rp.mono l2)⟩
        · obtain ⟨t1, t2, t3, t4⟩ := ok2.b.hn hT
          exact ⟨_, Le.frz ok2.b.fg t2, ⟨ok2.b.frz _ hT, ok2.s.le (Le.frz ok2.b.fg t2)⟩, .inr ⟨hw, T, vs, es, rfl, upd_same, rfl, (rl.mono l2).mono (same_new t1)⟩⟩
        · obtain ⟨t1, t2, t3, t4⟩ := ok2.b.hn hT
          exact ⟨_, Le.frz ok2.b.fg t2, ⟨ok2.b.frz _ hT, ok2.s.le (Le.frz ok2.b.fg t2)⟩, .inl (.tup (.inl ⟨o, upd_same, hdo⟩) ((rl.mono l2).mono (same_new t1)))⟩
      obtain ⟨g3, l3, ok3, rp3⟩ := item
      refine ⟨g3, m2, j2, dd, m3, ok3, rp3, hm3, fun r4 ok4 len4 k4 => ?_⟩
      have l23 := l2.trans l3.f
      refine ⟨g3, m3, j2, _, Ep, ok4, h2, fun fl m5 j5 p => ?_, xo.le (l1.trans l23)⟩
      cases fl with
      | next => exact fun g6 r6 H6 l6 ok6 => ⟨g6, m5, j5, l23.trans l6, ok6, p⟩
      | cnt => exact fun g6 r6 H6 l6 ok6 => ⟨g6, m5, j5, l23.trans l6, ok6, p⟩
      | brk => exact fun g6 r6 H6 l6 ok6 => q _ _ _ p g6 r6 H6 ((l1.trans l23).trans l6) ok6
      | ret d => exact q _ _ _ p
    · rintro r2 H2 ⟨g2, m2, j2, l2, ok2, h2⟩
      rw [List.drop_length] at h2
      exact q _ _ _ h2 g2 r2 H2 (l1.trans l2) ok2
theorem jSq (i : Nat) {tg : Expr} (hK : X.K = S.K) (hM : M i = true := by rfl) (hN : X.N[i]? = some x := by rfl) (hv : Vis X.env.scope x := by first | exact Or.inl rfl | exact Or.inr (Or.inl rfl) | exact Or.inr (Or.inr rfl)) (hd : (x == ("__debug__" : Str)) = false := by decide) (hcd : (x == ("__classdict__" : Str)) = false := by decide) :
    PI X tg (.Name x pos) (rdJ S B M W false (jSeq i)) := j_seq hK hM hN hv hd hcd
theorem jEn (i : Nat) {elts : List Expr} {kk : Nat} {tpos q0 : Pos} (hm : X.mg "enumerate" = none) (hM : M i = true := by rfl) (hN : X.N[i]? = some x := by rfl) (hv : Vis X.env.scope x := by first | exact Or.inl rfl | exact Or.inr (Or.inl rfl) | exact Or.inr (Or.inr rfl)) (hd : (x == ("__debug__" : Str)) = false := by decide) (hcd : (x == ("__classdict__" : Str)) = false := by decide)
    (hg : Gl X "enumerate" := by rfl) (hs : starEach [.Name x q0] X.env = [(false, eval (.Name x q0) X.env)] := by rfl) :
    PI X (.Tuple elts kk tpos) (.Call (.Name "enumerate" p) [.Name x q0] [] pos) (rdJ S B M W true (jEnm i)) := j_enm hM hN hv hd hcd hg hm hs
theorem zForJ (hi : PI X tg iter (rdJ S B M W w fj)) (hg : PG X tg (rdG S B M w ks γ)) (hb : PSs X body (rdS S B M W fb)) (hp : PassesOwn (model X.prog X.w) X.A X.env X.xe := by exact PassesOwn.never) (hc : X.calm = true := by rfl) (hs : ∀ x, foldedSetIterable iter X.env x = pure x := by intro _; rfl) :
    PS X (.For tg iter body [] pos) (rdS S B M W (sForJ fj γ fb)) := s_forJ hp hc hi hg hb hs
variable {PS' : Fl → Sd → J → Prop} {E : XP J}
@[simp ↓] theorem a_jseq {P : List D → Sd → J → Prop} : jSeq i m j P E = ∃ ds, m[i]? = some (some (.lst ds)) ∧ P ds (m.set i none) j := rfl
@[simp ↓] theorem a_jenm {P : List D → Sd → J → Prop} : jEnm i m j P E = ∃ ds, m[i]? = some (some (.lst ds)) ∧ P (enumD ds) (m.set i none) j := rfl
@[simp ↓] theorem a_forJ : sForJ fj γ fb m j PS' E = fj m j (fun ds m1 j1 => WL γ fb ds m1 j1 PS' E) E := rfl
end
end Mp

/-! O1: an object while it is made (its state is the closures' state); the object lent as a frozen one while an expression reads it. -/
namespace Mp
open PySem PySem.Spec L2
open PyProof.Rows hiding St
variable {J J' : Type}

/-- an attribute: a value that stays, or a list that the object alone has, at b -/
inductive Fld | val (d : D) | own (b : Addr) (xs : List D)
def Fld.flat : Fld → D
  | .val d => d
  | .own _ xs => .lst xs
structure Ob where
  ad : Addr
  c : Nat
  fs : List (Str × Fld)
def flatF : List (Str × Fld) → List (Str × D)
  | [] => []
  | (k, f) :: r => (k, f.flat) :: flatF r
def Ob.flat (o : Ob) : D := .ins o.c (flatF o.fs)
def ownsF : List (Str × Fld) → List Addr
  | [] => []
  | (_, .val _) :: r => ownsF r
  | (_, .own b _) :: r => b :: ownsF r
def putFld (k : Str) (f : Fld) : List (Str × Fld) → List (Str × Fld)
  | [] => [(k, f)]
  | (g, x) :: r => if g = k then (g, f) :: r else (g, x) :: putFld k f r
def setL (k : Str) (ys : List D) : List (Str × Fld) → List (Str × Fld)
  | [] => []
  | (g, x) :: r => if g = k then (g, match x with | .own b _ => .own b ys | .val d => .val d) :: r else (g, x) :: setL k ys r
def getF (k : Str) : List (Str × Fld) → Option Fld
  | [] => none
  | (g, x) :: r => if g = k then some x else getF k r
def Ob.put (o : Ob) (k : Str) (f : Fld) : Ob := ⟨o.ad, o.c, putFld k f o.fs⟩
def Ob.setL (o : Ob) (k : Str) (ys : List D) : Ob := ⟨o.ad, o.c, Mp.setL k ys o.fs⟩

/-! ### the same data under another source -/
mutual
theorem Rp.cv {S : Js J} {S' : Js J'} {F : Hp} (hK : S.K = S'.K) (hR : S.R = S'.R) (hc : S.cl = S'.cl) : ∀ {d : D} {v : V}, Rp S F d v → Rp S' F d v
  | _, _, .non => .non
  | _, _, .bl b => .bl b
  | _, _, .int i => .int i
  | _, _, .str x => .str x
  | _, _, .tup h t => .tup (hK ▸ h) (RpL.cv hK hR hc t)
  | _, _, .lst h t => .lst h (RpL.cv hK hR hc t)
  | _, _, .dct h l t => .dct h l (RpL.cv hK hR hc t)
  | _, _, .jar => hR ▸ .jar
  | _, _, .obj a => .obj a
  | _, _, .ins h l t => .ins (hc ▸ h) l (RpL.cv hK hR hc t)
  | _, _, .dtp h l t => .dtp h l (RpL.cv hK hR hc t)
theorem RpL.cv {S : Js J} {S' : Js J'} {F : Hp} (hK : S.K = S'.K) (hR : S.R = S'.R) (hc : S.cl = S'.cl) : ∀ {ds : List D} {vs : List V}, RpL S F ds vs → RpL S' F ds vs
  | _, _, .nil => .nil
  | _, _, .cons h t => .cons (Rp.cv hK hR hc h) (RpL.cv hK hR hc t)
end

/-! ### how it lies -/
inductive FldR (S : Js J) (F H : Hp) (A : Addr → Prop) : Fld → V → Prop
  | val {d : D} {v : V} : Rp S F d v → FldR S F H A (.val d) v
  | own {b : Addr} {xs : List D} {vs : List V} : H b = some (.lst vs) → RpL S F xs vs → A b → FldR S F H A (.own b xs) (.ref b)
inductive FldsR (S : Js J) (F H : Hp) (A : Addr → Prop) : List (Str × Fld) → List (Str × V) → Prop
  | nil : FldsR S F H A [] []
  | cons {k : Str} {f : Fld} {v : V} {fs : List (Str × Fld)} {kvs : List (Str × V)} : FldR S F H A f v → FldsR S F H A fs kvs → FldsR S F H A ((k, f) :: fs) ((k, v) :: kvs)
structure ObR (S : Js J) (o : Ob) (F : Hp) (A : Addr → Prop) (H : Hp) : Prop where
  ex : ∃ dx kvs, H o.ad = some (.ins (S.cl o.c) dx kvs) ∧ H dx = some (.own o.ad) ∧ A dx ∧ FldsR S F H A o.fs kvs
  at_ : A o.ad
  nd : (ownsF o.fs).Nodup
  dm : ∀ b, A b → H b ≠ none
section
variable {S : Js J} {F F' H H' : Hp} {A : Addr → Prop} {o : Ob} {fs : List (Str × Fld)} {kvs : List (Str × V)} {k : Str} {f : Fld}
theorem FldR.mono {v : V} (h : FldR S F H A f v) (s : Same F F') (q : ∀ b, A b → H' b = H b) : FldR S F' H' A f v := by
  cases h with
  | val r => exact .val (r.mono s)
  | own e r a => exact .own ((q _ a).trans e) (r.mono s) a
theorem FldsR.mono (s : Same F F') (q : ∀ b, A b → H' b = H b) : ∀ {fs : List (Str × Fld)} {kvs : List (Str × V)}, FldsR S F H A fs kvs → FldsR S F' H' A fs kvs
  | _, _, .nil => .nil
  | _, _, .cons h t => .cons (h.mono s q) (t.mono s q)
theorem ObR.frame (h : ObR S o F A H) (s : Same F F') (q : ∀ b, A b → H' b = H b) : ObR S o F' A H' := by
  obtain ⟨⟨dx, kvs, e1, e2, e3, e4⟩, h2, h3, h4⟩ := h
  exact ⟨⟨dx, kvs, (q _ h2).trans e1, (q _ e3).trans e2, e3, e4.mono s q⟩, h2, h3, fun b hb => by rw [q b hb]; exact h4 b hb⟩
theorem FldsR.get : ∀ {fs : List (Str × Fld)} {kvs : List (Str × V)}, FldsR S F H A fs kvs → getF k fs = some f → ∃ v, kvs.lookup k = some v ∧ FldR S F H A f v
  | _, _, .nil, e => by cases e
  | _, _, .cons (k := g) (v := v) (kvs := kvs) h t, e => by
    unfold getF at e
    by_cases c : g = k
    · rw [if_pos c] at e
      cases e
      subst c
      exact ⟨v, by simp [List.lookup], h⟩
    · rw [if_neg c] at e
      obtain ⟨v', e1, r⟩ := t.get e
      exact ⟨v', by rw [List.lookup_cons, show (k == g) = false from beq_eq_false_iff_ne.mpr (Ne.symm c)]; exact e1, r⟩
theorem FldsR.get0 : ∀ {fs : List (Str × Fld)} {kvs : List (Str × V)}, FldsR S F H A fs kvs → getF k fs = none → kvs.lookup k = none
  | _, _, .nil, e => rfl
  | _, _, .cons (k := g) h t, e => by
    unfold getF at e
    by_cases c : g = k
    · rw [if_pos c] at e; cases e
    · rw [if_neg c] at e
      rw [List.lookup_cons, show (k == g) = false from beq_eq_false_iff_ne.mpr (Ne.symm c)]
      exact t.get0 e
theorem FldsR.len : ∀ {fs : List (Str × Fld)} {kvs : List (Str × V)}, FldsR S F H A fs kvs → fs.length = kvs.length
  | _, _, .nil => rfl
  | _, _, .cons h t => by rw [List.length_cons, List.length_cons, t.len]
theorem FldsR.put {v : V} (hf : FldR S F H A f v) : ∀ {fs : List (Str × Fld)} {kvs : List (Str × V)}, FldsR S F H A fs kvs → FldsR S F H A (putFld k f fs) (putF k v kvs)
  | _, _, .nil => .cons hf .nil
  | _, _, .cons (k := g) h t => by
    unfold putFld
    show FldsR S F H A _ (if g = k then _ else _)
    by_cases c : g = k
    · rw [if_pos c, if_pos c]; exact .cons hf t
    · rw [if_neg c, if_neg c]; exact .cons h (t.put hf)
theorem FldsR.upd_ne {b : Addr} {u : HO} : ∀ {fs : List (Str × Fld)} {kvs : List (Str × V)}, FldsR S F H A fs kvs → b ∉ ownsF fs → FldsR S F (upd H b u) A fs kvs
  | _, _, .nil, _ => .nil
  | _, _, .cons (f := .val d) h t, n => by
    cases h with
    | val r => exact .cons (.val r) (t.upd_ne n)
  | _, _, .cons (f := .own c xs) h t, n => by
    have n' : b ∉ c :: ownsF _ := n
    rw [List.mem_cons, not_or] at n'
    cases h with
    | own e r a => exact .cons (.own (by rw [L2.upd_ne (Ne.symm n'.1)]; exact e) r a) (t.upd_ne n'.2)
theorem owns_mem {b : Addr} {xs : List D} : ∀ {fs : List (Str × Fld)}, getF k fs = some (.own b xs) → b ∈ ownsF fs
  | [], e => by cases e
  | (g, .val d) :: r, e => by
    unfold getF at e
    by_cases c : g = k
    · rw [if_pos c] at e; cases e
    · rw [if_neg c] at e; exact owns_mem (fs := r) e
  | (g, .own c ys) :: r, e => by
    unfold getF at e
    show b ∈ c :: ownsF r
    by_cases q : g = k
    · rw [if_pos q] at e; cases e; exact List.mem_cons_self
    · rw [if_neg q] at e; exact List.mem_cons_of_mem _ (owns_mem (fs := r) e)
theorem owns_setL {ys : List D} : ∀ {fs : List (Str × Fld)}, ownsF (Mp.setL k ys fs) = ownsF fs
  | [] => rfl
  | (g, .val d) :: r => by
    unfold Mp.setL
    by_cases c : g = k
    · rw [if_pos c]
    · rw [if_neg c]; exact owns_setL (fs := r)
  | (g, .own b xs) :: r => by
    unfold Mp.setL
    by_cases c : g = k
    · rw [if_pos c]; rfl
    · rw [if_neg c]; show b :: ownsF _ = b :: ownsF _; rw [owns_setL (fs := r)]
theorem FldsR.setL {b : Addr} {xs ys : List D} {ws : List V} (hy : RpL S F ys ws) (ha : A b) : ∀ {fs : List (Str × Fld)} {kvs : List (Str × V)}, FldsR S F H A fs kvs → getF k fs = some (.own b xs) → (ownsF fs).Nodup →
    FldsR S F (upd H b (.lst ws)) A (Mp.setL k ys fs) kvs
  | _, _, .nil, e, _ => by cases e
  | _, _, .cons (k := g) (f := .val d) h t, e, n => by
    unfold getF at e
    unfold Mp.setL
    by_cases c : g = k
    · rw [if_pos c] at e; cases e
    · rw [if_neg c] at e ⊢
      cases h with
      | val r => exact .cons (.val r) (t.setL hy ha e n)
  | _, _, .cons (k := g) (f := .own c zs) h t, e, n => by
    unfold getF at e
    unfold Mp.setL
    have n' : (c :: ownsF _).Nodup := n
    rw [List.nodup_cons] at n'
    by_cases q : g = k
    · rw [if_pos q] at e ⊢
      cases e
      cases h with
      | own e r a => exact .cons (.own upd_same hy a) (t.upd_ne n'.1)
    · rw [if_neg q] at e ⊢
      have hm := owns_mem e
      cases h with
      | own e' r a => exact .cons (.own (by rw [L2.upd_ne (show c ≠ b from fun z => n'.1 (by rw [z]; exact hm))]; exact e') r a) (t.setL hy ha e n'.2)
theorem owns_putV {d : D} : ∀ {fs : List (Str × Fld)}, (ownsF fs).Nodup → (ownsF (putFld k (.val d) fs)).Nodup ∧ ∀ b ∈ ownsF (putFld k (.val d) fs), b ∈ ownsF fs
  | [], n => ⟨List.nodup_nil, fun b h => by cases h⟩
  | (g, .val d') :: r, n => by
    unfold putFld
    by_cases c : g = k
    · rw [if_pos c]; exact ⟨n, fun b h => h⟩
    · rw [if_neg c]; exact owns_putV (fs := r) n
  | (g, .own b xs) :: r, n => by
    unfold putFld
    have n' : (b :: ownsF r).Nodup := n
    rw [List.nodup_cons] at n'
    by_cases c : g = k
    · rw [if_pos c]; exact ⟨n'.2, fun x h => List.mem_cons_of_mem _ h⟩
    · rw [if_neg c]
      obtain ⟨i1, i2⟩ := owns_putV (fs := r) n'.2
      refine ⟨?_, fun x h => ?_⟩
      · show (b :: ownsF _).Nodup
        rw [List.nodup_cons]
        exact ⟨fun z => n'.1 (i2 _ z), i1⟩
      · have h' : x ∈ b :: ownsF (putFld k (.val d) r) := h
        rcases List.mem_cons.mp h' with z | z
        · rw [z]; exact List.mem_cons_self
        · exact List.mem_cons_of_mem _ (i2 _ z)
theorem owns_putO {b0 : Addr} {ys : List D} : ∀ {fs : List (Str × Fld)}, (ownsF fs).Nodup → b0 ∉ ownsF fs → (ownsF (putFld k (.own b0 ys) fs)).Nodup ∧ ∀ b ∈ ownsF (putFld k (.own b0 ys) fs), b = b0 ∨ b ∈ ownsF fs
  | [], n, _ => ⟨by simp [putFld, ownsF], fun b h => .inl (by simpa [putFld, ownsF] using h)⟩
  | (g, .val d') :: r, n, m => by
    unfold putFld
    by_cases c : g = k
    · rw [if_pos c]
      refine ⟨?_, fun b h => ?_⟩
      · show (b0 :: ownsF r).Nodup
        rw [List.nodup_cons]; exact ⟨m, n⟩
      · exact List.mem_cons.mp (show b ∈ b0 :: ownsF r from h)
    · rw [if_neg c]; exact owns_putO (fs := r) n m
  | (g, .own b xs) :: r, n, m => by
    unfold putFld
    have n' : (b :: ownsF r).Nodup := n
    have m' : b0 ∉ b :: ownsF r := m
    rw [List.nodup_cons] at n'
    rw [List.mem_cons, not_or] at m'
    by_cases c : g = k
    · rw [if_pos c]
      refine ⟨?_, fun x h => ?_⟩
      · show (b0 :: ownsF r).Nodup
        rw [List.nodup_cons]; exact ⟨m'.2, n'.2⟩
      · rcases List.mem_cons.mp (show x ∈ b0 :: ownsF r from h) with z | z
        · exact .inl z
        · exact .inr (List.mem_cons_of_mem _ z)
    · rw [if_neg c]
      obtain ⟨i1, i2⟩ := owns_putO (fs := r) n'.2 m'.2
      refine ⟨?_, fun x h => ?_⟩
      · show (b :: ownsF _).Nodup
        rw [List.nodup_cons]
        exact ⟨fun z => (i2 _ z).elim (fun q => m'.1 q.symm) n'.1, i1⟩
      · rcases List.mem_cons.mp (show x ∈ b :: ownsF (putFld k (.own b0 ys) r) from h) with z | z
        · exact .inr (by rw [z]; exact List.mem_cons_self)
        · exact (i2 _ z).imp id (List.mem_cons_of_mem _)
theorem FldsR.ownA : ∀ {fs : List (Str × Fld)} {kvs : List (Str × V)}, FldsR S F H A fs kvs → ∀ b ∈ ownsF fs, A b ∧ ∃ vs, H b = some (.lst vs)
  | _, _, .nil, b, h => by cases h
  | _, _, .cons (f := .val d) h t, b, m => t.ownA b m
  | _, _, .cons (f := .own c xs) h t, b, m => by
    rcases List.mem_cons.mp (show b ∈ c :: ownsF _ from m) with z | z
    · subst z
      cases h with
      | own e r a => exact ⟨a, _, e⟩
    · exact t.ownA b z
end

/-- the source while an object is made: the object -/
def jsO (S : Js J) : Js Ob where
  K := S.K
  R := S.R
  cl := S.cl
  xc := S.xc
  xf := S.xf
  rep := fun o F A H => ObR S o F A H
  frame := fun h s q => h.frame s q
  dom := fun h a => h.dm _ a
/-- no source -/
def js0 (S : Js J) : Js Unit where
  K := S.K
  R := S.R
  cl := S.cl
  xc := S.xc
  xf := S.xf
  rep := fun _ _ A _ => ∀ b, ¬ A b
  frame := fun h _ _ => h
  dom := fun h a => (h _ a).elim
instance {S : Js J} : PureJ (js0 S) := ⟨fun h => h⟩

/-! ### data without lists and objects -/
mutual
def tupD : D → Bool
  | .non => true
  | .bl _ => true
  | .int _ => true
  | .str _ => true
  | .tup xs => tupDL xs
  | _ => false
def tupDL : List D → Bool
  | [] => true
  | x :: r => tupD x && tupDL r
end
def freshB : D → Bool
  | .lst xs => tupDL xs
  | _ => false
mutual
theorem Rp.tupD {S : Js J} {S' : Js J'} {F F' : Hp} (hK : S.K = S'.K) (s : ∀ b o u, F b = some (.frz o u) → F' b = some (.frz o u)) : ∀ {d : D} {v : V}, Rp S F d v → Mp.tupD d = true → Rp S' F' d v
  | _, _, .non, _ => .non
  | _, _, .bl b, _ => .bl b
  | _, _, .int i, _ => .int i
  | _, _, .str x, _ => .str x
  | _, _, .tup (a := a) (vs := vs) h t, e => .tup (by
      rw [← hK]
      rcases h with ⟨o, h1, h2⟩ | h
      · exact .inl ⟨o, s _ _ _ h1, h2⟩
      · exact .inr h) (RpL.tupD hK s t (by unfold Mp.tupD at e; exact e))
  | _, _, .lst h t, e => by unfold Mp.tupD at e; cases e
  | _, _, .dct h l t, e => by unfold Mp.tupD at e; cases e
  | _, _, .jar, e => by unfold Mp.tupD at e; cases e
  | _, _, .obj a, e => by unfold Mp.tupD at e; cases e
  | _, _, .ins h l t, e => by unfold Mp.tupD at e; cases e
theorem RpL.tupD {S : Js J} {S' : Js J'} {F F' : Hp} (hK : S.K = S'.K) (s : ∀ b o u, F b = some (.frz o u) → F' b = some (.frz o u)) : ∀ {ds : List D} {vs : List V}, RpL S F ds vs → tupDL ds = true → RpL S' F' ds vs
  | _, _, .nil, _ => .nil
  | _, _, .cons h t, e => by
    unfold tupDL at e
    rw [Bool.and_eq_true] at e
    exact .cons (Rp.tupD hK s h e.1) (RpL.tupD hK s t e.2)
end

end Mp

/-! O2: the object lent as a frozen one while an expression reads it. -/
namespace Mp
open PySem PySem.Spec L2
open PyProof.Rows hiding St
variable {J J' : Type}
def Ob.over (o : Ob) (H F : Hp) : Hp := fun b => if b = o.ad ∨ b ∈ ownsF o.fs then H b else F b
def Ob.less (o : Ob) (F : Hp) : Hp := fun b => if b = o.ad ∨ b ∈ ownsF o.fs then none else F b
theorem Own.cv {S : Js J} {S' : Js J'} {g : Gh} {d : D} {a : Addr} (hK : S.K = S'.K) (hR : S.R = S'.R) (hc : S.cl = S'.cl) (h : Own S g d a) : Own S' g d a := by
  obtain ⟨n, ⟨ds, vs, e, e2, t⟩ | ⟨kds, kvs, e, e2, e3, t⟩ | ⟨kds, kvs, e, e2, e3, t⟩⟩ := h
  · exact ⟨n, .inl ⟨ds, vs, e, e2, t.cv hK hR hc⟩⟩
  · exact ⟨n, .inr (.inl ⟨kds, kvs, e, e2, e3, t.cv hK hR hc⟩)⟩
  · exact ⟨n, .inr (.inr ⟨kds, kvs, e, e2, e3, t.cv hK hR hc⟩)⟩
theorem Slots.cv {S : Js J} {S' : Js J'} {g : Gh} {M : Nat → Bool} {r : St} {m : Sd} (hK : S.K = S'.K) (hR : S.R = S'.R) (hc : S.cl = S'.cl) (h : Slots S g M r m) : Slots S' g M r m :=
  ⟨h.len, fun i d e q => let ⟨v, h1, h2⟩ := h.fr i d e q; ⟨v, h1, h2.cv hK hR hc⟩, fun i d e q => let ⟨a, h1, h2⟩ := h.ow i d e q; ⟨a, h1, h2.cv hK hR hc⟩, h.dj⟩
section
variable {S : Js J} {o : Ob} {F H : Hp} {A : Addr → Prop} {B : Bs} {g : Gh} {M : Nat → Bool} {r : St} {m : Sd}
theorem over_in {b : Addr} (h : b = o.ad ∨ b ∈ ownsF o.fs) : o.over H F b = H b := if_pos h
theorem over_out {b : Addr} (h : ¬ (b = o.ad ∨ b ∈ ownsF o.fs)) : o.over H F b = F b := if_neg h
theorem less_in {b : Addr} (h : b = o.ad ∨ b ∈ ownsF o.fs) : o.less F b = none := if_pos h
theorem less_out {b : Addr} (h : ¬ (b = o.ad ∨ b ∈ ownsF o.fs)) : o.less F b = F b := if_neg h
theorem flat_keys : ∀ {fs : List (Str × Fld)} {kvs : List (Str × V)}, FldsR S F H A fs kvs → (flatF fs).map Prod.fst = kvs.map Prod.fst
  | _, _, .nil => rfl
  | _, _, .cons h t => by simp only [flatF, List.map_cons]; rw [flat_keys t]
theorem flat_vals {S' : Js J'} {F' : Hp} (hK : S.K = S'.K) (hR : S.R = S'.R) (hc : S.cl = S'.cl) (s : Same F F') : ∀ {fs : List (Str × Fld)} {kvs : List (Str × V)}, FldsR S F H A fs kvs → (∀ b ∈ ownsF fs, ∀ u, H b = some u → F' b = some u) → RpL S' F' ((flatF fs).map Prod.snd) (kvs.map Prod.snd)
  | _, _, .nil, _ => .nil
  | _, _, .cons (f := .val d) h t, q => by
    cases h with
    | val r => exact .cons ((r.mono s).cv hK hR hc) (flat_vals hK hR hc s t q)
  | _, _, .cons (f := .own b xs) h t, q => by
    cases h with
    | own e r a => exact .cons (.lst (q b List.mem_cons_self _ e) ((r.mono s).cv hK hR hc)) (flat_vals hK hR hc s t fun b hb => q b (List.mem_cons_of_mem _ hb))
/-- the object, frozen -/
theorem ObR.flat {S' : Js J'} {F' : Hp} (h : ObR S o F A H) (hK : S.K = S'.K) (hR : S.R = S'.R) (hc : S.cl = S'.cl) (s : Same F F') (q : ∀ b, b = o.ad ∨ b ∈ ownsF o.fs → ∀ u, H b = some u → F' b = some u) : Rp S' F' o.flat (.ref o.ad) := by
  obtain ⟨dx, kvs, e1, e2, e3, e4⟩ := h.ex
  exact .ins (by rw [← hc]; exact q _ (.inl rfl) _ e1) (flat_keys e4) (flat_vals hK hR hc s e4 fun b hb => q b (.inr hb))
theorem ObR.area (h : ObR S o F A H) {b : Addr} (hb : b = o.ad ∨ b ∈ ownsF o.fs) : A b ∧ ∃ u, H b = some u ∧ ∀ x y, u ≠ .frz x y := by
  obtain ⟨dx, kvs, e1, e2, e3, e4⟩ := h.ex
  rcases hb with rfl | hb
  · exact ⟨h.at_, _, e1, by intro x y z; cases z⟩
  · obtain ⟨a, vs, e⟩ := e4.ownA b hb
    exact ⟨a, _, e, by intro x y z; cases z⟩
theorem set_id {r : List (Option V)} {i : Nat} {v : V} (h : r[i]? = some (some v)) : r.set i (some v) = r := by
  obtain ⟨h1, h2⟩ := List.getElem?_eq_some_iff.mp h
  rw [← h2]; exact List.set_getElem_self h1
theorem lend (ok : Ok (jsO S) B g M r H m o) (h0 : m[0]? = some (some (.obj o.ad))) (hM : M 0 = false) : ∃ g2 B2, Ok (js0 S) B2 g2 M r H (m.set 0 (some o.flat)) () ∧
    ∀ g3 H3, Le g2 g3 → OkB (js0 S) B2 g3 H3 () → ∃ g1, Le g g1 ∧ Ok (jsO S) B g1 M r H3 m o ∧ (∀ d v, Rp (js0 S) g3.F d v → tupD d = true → Rp (jsO S) g1.F d v) ∧ (∀ d v, Val (js0 S) g2 g3 .fresh d v → freshB d = true → Val (jsO S) g g1 .fresh d v) := by
  have jr : ObR S o g.F g.A H := ok.b.jr
  have arA : ∀ {b}, b = o.ad ∨ b ∈ ownsF o.fs → g.G b = none := fun {b} hb => by
    cases z : g.G b with
    | none => rfl
    | some u => exact (ok.b.ga b u z (jr.area hb).1).elim
  have arF : ∀ {b}, b = o.ad ∨ b ∈ ownsF o.fs → g.F b = none := fun {b} hb => ok.b.fg.free (arA hb)
  have sF : Same g.F (o.over H g.F) := fun b u e => by
    by_cases hb : b = o.ad ∨ b ∈ ownsF o.fs
    · rw [arF hb] at e; cases e
    · rw [over_out hb]; exact e
  have sG : Same g.G (o.over H g.G) := fun b u e => by
    by_cases hb : b = o.ad ∨ b ∈ ownsF o.fs
    · rw [arA hb] at e; cases e
    · rw [over_out hb]; exact e
  have sFG : Same (o.over H g.F) (o.over H g.G) := fun b u e => by
    by_cases hb : b = o.ad ∨ b ∈ ownsF o.fs
    · rw [over_in hb] at e ⊢; exact e
    · rw [over_out hb] at e ⊢; exact ok.b.fg b u e
  have sGH : Same (o.over H g.G) H := fun b u e => by
    by_cases hb : b = o.ad ∨ b ∈ ownsF o.fs
    · rw [over_in hb] at e; exact e
    · rw [over_out hb] at e; exact ok.b.gh b u e
  let g2 : Gh := ⟨o.over H g.F, o.over H g.G, fun _ => False⟩
  let H0 : Hp := fun b => if (o.over H g.F b).isNone = true ∧ (o.over H g.G b).isSome = true then none else H b
  have hH0 : ∀ b u, H0 b = some u → H b = some u := fun b u e => by
    have e' : (if _ then none else H b) = some u := e
    split at e'
    · cases e'
    · exact e'
  have hN0 : ∀ b, H0 b = none → H b = none ∨ (o.over H g.F b = none ∧ ∃ u, o.over H g.G b = some u) := fun b e => by
    have e' : (if _ then none else H b) = none := e
    split at e'
    · rename_i c
      exact .inr ⟨Option.isNone_iff_eq_none.mp c.1, Option.isSome_iff_exists.mp c.2⟩
    · exact .inl e'
  let B2 : Bs := ⟨o.over H g.F, H0, fun _ => False⟩
  have okB : OkB (js0 S) B2 g2 H () := by
    refine ⟨sFG, sGH, fun _ _ _ z => z, fun _ z => z, Same.refl _, fun b u e => ?_, fun _ z => z.elim, fun b u e _ => hH0 b u e, fun b e => ?_, ok.b.sm⟩
    · cases z : o.over H g.F b with
      | none =>
        right
        show (if _ then none else H b) = none
        rw [if_pos ⟨by rw [z]; rfl, by rw [show o.over H g.G b = some u from e]; rfl⟩]
      | some u' =>
        left
        have := sFG b u' z
        rw [show o.over H g.G b = some u from e] at this
        cases this
        exact z
    · show (if _ then none else H b) = none
      split
      · rfl
      · exact e
  have l0 : Le g ⟨o.over H g.F, o.over H g.G, g.A⟩ ∨ True := .inr trivial
  have sl1 : Slots (jsO S) g2 M r m := by
    refine ⟨ok.s.len, fun i d e q => let ⟨v, h1, h2⟩ := ok.s.fr i d e q; ⟨v, h1, h2.mono sF⟩, fun i d e q => ?_, ok.s.dj⟩
    obtain ⟨a, h1, h2⟩ := ok.s.ow i d e q
    obtain ⟨u, hu⟩ := h2.in_g
    have na : ¬ (a = o.ad ∨ a ∈ ownsF o.fs) := fun z => by rw [arA z] at hu; cases hu
    refine ⟨a, h1, ?_⟩
    obtain ⟨n, ⟨ds, vs, e, e2, t⟩ | ⟨kds, kvs, e, e2, e3, t⟩ | ⟨kds, kvs, e, e2, e3, t⟩⟩ := h2
    · exact ⟨(over_out na).trans n, .inl ⟨ds, vs, e, (over_out na).trans e2, t.mono sF⟩⟩
    · exact ⟨(over_out na).trans n, .inr (.inl ⟨kds, kvs, e, (over_out na).trans e2, e3, t.mono sF⟩)⟩
    · exact ⟨(over_out na).trans n, .inr (.inr ⟨kds, kvs, e, (over_out na).trans e2, e3, t.mono sF⟩)⟩
  have r0 : r[0]? = some (some (.ref o.ad)) := by
    obtain ⟨v, h1, h2⟩ := ok.s.fr 0 _ h0 hM
    cases h2
    exact h1
  have sl2 : Slots (js0 S) g2 M r (m.set 0 (some o.flat)) := by
    have z := Slots.cv (S := jsO S) (S' := js0 S) rfl rfl rfl sl1
    have := z.set_fr (i := 0) hM (jr.flat (S' := js0 S) (F' := o.over H g.F) rfl rfl rfl sF fun b hb u e => (over_in hb).trans e)
    rw [set_id r0] at this
    exact this
  refine ⟨g2, B2, ⟨okB, sl2⟩, fun g3 H3 l3 ok3 => ?_⟩
  have keep : ∀ b u, H b = some u → H3 b = some u := fun b u e => by
    cases z : H0 b with
    | some u' =>
      have := hH0 b u' z
      rw [e] at this
      cases this
      exact ok3.h0 b u z fun z => z
    | none =>
      rcases hN0 b z with z | ⟨_, u', z⟩
      · rw [e] at z; cases z
      · have := sGH b u' z
        rw [e] at this
        cases this
        exact ok3.gh b u (l3.g b u z)
  have back : ∀ b, H3 b = none → H b = none := fun b e => by
    cases z : H b with
    | none => rfl
    | some u => rw [keep b u z] at e; cases e
  have g3in : ∀ b u, g3.G b = some u → ¬ (b = o.ad ∨ b ∈ ownsF o.fs) → (g.F b = some u) ∨ H b = none ∨ (g.F b = none ∧ g.G b = some u) := fun b u e nb => by
    rcases ok3.g0 b u e with z | z
    · exact .inl ((over_out nb).symm.trans z)
    · rcases hN0 b z with z | ⟨z1, u', z⟩
      · exact .inr (.inl z)
      · refine .inr (.inr ⟨(over_out nb).symm.trans z1, ?_⟩)
        have := l3.g b u' z
        rw [e] at this
        cases this
        exact (over_out nb).symm.trans z
  let g1 : Gh := ⟨o.less g3.F, o.less g3.G, g.A⟩
  have lF : Same g.F (o.less g3.F) := fun b u e => by
    by_cases hb : b = o.ad ∨ b ∈ ownsF o.fs
    · rw [arF hb] at e; cases e
    · rw [less_out hb]; exact l3.f b u (sF b u e)
  have lG : Same g.G (o.less g3.G) := fun b u e => by
    by_cases hb : b = o.ad ∨ b ∈ ownsF o.fs
    · rw [arA hb] at e; cases e
    · rw [less_out hb]; exact l3.g b u (sG b u e)
  have le1 : Le g g1 := ⟨lF, lG, fun b u e => by
    have e' : o.less g3.F b = some u := e
    by_cases hb : b = o.ad ∨ b ∈ ownsF o.fs
    · rw [less_in hb] at e'; cases e'
    · rw [less_out hb] at e'
      rcases l3.n b u e' with z | z
      · exact .inl ((over_out hb).symm.trans z)
      · exact .inr ((over_out hb).symm.trans z)⟩
  have fg1 : Same g1.F g1.G := fun b u e => by
    have e' : o.less g3.F b = some u := e
    show o.less g3.G b = some u
    by_cases hb : b = o.ad ∨ b ∈ ownsF o.fs
    · rw [less_in hb] at e'; cases e'
    · rw [less_out hb] at e' ⊢; exact ok3.fg b u e'
  have inG : ∀ b u, g1.G b = some u → ¬ (b = o.ad ∨ b ∈ ownsF o.fs) ∧ g3.G b = some u := fun b u e => by
    have e' : o.less g3.G b = some u := e
    by_cases hb : b = o.ad ∨ b ∈ ownsF o.fs
    · rw [less_in hb] at e'; cases e'
    · rw [less_out hb] at e'; exact ⟨hb, e'⟩
  have okb1 : OkB (jsO S) B g1 H3 o := by
    refine ⟨fg1, fun b u e => ok3.gh b u (inG b u e).2, fun b u e z => ?_, ?_, ok.b.f0.trans lF, fun b u e => ?_, ok.b.a0, fun b u e n => keep b u (ok.b.h0 b u e n), fun b e => ok.b.h1 b (back b e), ok3.sm⟩
    · obtain ⟨nb, e⟩ := inG b u e
      rcases g3in b u e nb with q | q | ⟨_, q⟩
      · exact ok.b.ga b u (ok.b.fg b u q) z
      · exact jr.dm b z q
      · exact ok.b.ga b u q z
    · exact jr.frame lF fun b hb => by
        cases q : H b with
        | none => exact (jr.dm b hb q).elim
        | some u => exact keep b u q
    · obtain ⟨nb, e⟩ := inG b u e
      rcases g3in b u e nb with q | q | ⟨_, q⟩
      · exact ok.b.g0 b u (ok.b.fg b u q)
      · exact .inr (ok.b.h1 b q)
      · exact ok.b.g0 b u q
  have frz : ∀ b x y, g3.F b = some (.frz x y) → g1.F b = some (.frz x y) := fun b x y e => by
    show o.less g3.F b = _
    by_cases hb : b = o.ad ∨ b ∈ ownsF o.fs
    · obtain ⟨_, u, hu, nf⟩ := jr.area hb
      have e2 := ok3.gh b _ (ok3.fg b _ e)
      rw [keep b u hu] at e2
      cases e2
      exact (nf x y rfl).elim
    · rw [less_out hb]; exact e
  refine ⟨g1, le1, ⟨okb1, ok.s.le le1⟩, fun d v h hd => Rp.tupD (S := js0 S) (S' := jsO S) rfl frz h hd, fun d v h hd => ?_⟩
  obtain ⟨a, rfl, na, n3, q⟩ := h
  have na' : o.over H g.G a = none := na
  have nb : ¬ (a = o.ad ∨ a ∈ ownsF o.fs) := fun z => by
    obtain ⟨_, u, hu, _⟩ := jr.area z
    rw [over_in z, hu] at na'; cases na'
  refine ⟨a, rfl, (over_out nb).symm.trans na', ?_, ?_⟩
  · show o.less g3.F a = none
    rw [less_out nb]; exact n3
  · rcases q with ⟨ds, vs, rfl, e2, t⟩ | ⟨kds, kvs, rfl, e2, e3, t⟩ | ⟨kds, kvs, rfl, e2, e3, t⟩
    · exact .inl ⟨ds, vs, rfl, (less_out nb).trans e2, RpL.tupD (S := js0 S) (S' := jsO S) rfl frz t hd⟩
    · cases hd
    · cases hd
end

/-! ### the combinators -/
def eLend (f : Ev Unit) (m : Sd) (o : Ob) (P : D → Ob → Prop) (E : XP Ob) : Prop := m[0]? = some (some (.obj o.ad)) ∧ f (m.set 0 (some o.flat)) () (fun d _ => tupD d = true ∧ P d o) xNo
def eLendF (f : Ev Unit) (m : Sd) (o : Ob) (P : D → Ob → Prop) (E : XP Ob) : Prop := m[0]? = some (some (.obj o.ad)) ∧ f (m.set 0 (some o.flat)) () (fun d _ => freshB d = true ∧ P d o) xNo
def tLend (f : Tv Unit) (m : Sd) (o : Ob) (P : Bool → Ob → Prop) (E : XP Ob) : Prop := m[0]? = some (some (.obj o.ad)) ∧ f (m.set 0 (some o.flat)) () (fun d _ => P d o) xNo
instance {f : Ev Unit} [h : MoE f] : MoE (eLend f) := ⟨fun ⟨e, p⟩ q _ => ⟨e, h.mo p (fun _ _ ⟨a, b⟩ => ⟨a, q _ _ b⟩) fun _ _ _ z => z⟩⟩
instance {f : Ev Unit} [h : MoE f] : MoE (eLendF f) := ⟨fun ⟨e, p⟩ q _ => ⟨e, h.mo p (fun _ _ ⟨a, b⟩ => ⟨a, q _ _ b⟩) fun _ _ _ z => z⟩⟩
instance {f : Tv Unit} [h : MoT f] : MoT (tLend f) := ⟨fun ⟨e, p⟩ q _ => ⟨e, h.mo p (fun _ _ b => q _ _ b) fun _ _ _ z => z⟩⟩
section
variable {S : Js J} {B : Bs} {M : Nat → Bool} {W : WX} {X : Cx} {e : Expr} {f : Ev Unit} {ft : Tv Unit}
theorem e_lend (h : ∀ B, PE X e (rdE (js0 S) B M W0 .clean f)) (hM : M 0 = false := by rfl) : PE X e (rdE (jsO S) B M W .clean (eLend f)) := by
  refine ⟨fun pins s σ H Q I ⟨g, m, o, P, E, ok, ⟨h0, hf⟩, q, xo⟩ => ?_⟩
  obtain ⟨g2, B2, ok2, out⟩ := lend ok h0 hM
  refine (h B2).run pins s σ H Q I ⟨g2, _, (), _, _, ok2, hf, fun d _ g3 v H3 ⟨hd, p⟩ l3 ok3 w => ?_, XOut.no⟩
  obtain ⟨g1, l1, ok1, c1, _⟩ := out g3 H3 l3 ok3.b
  exact q d o g1 v H3 p l1 ok1 (c1 d v w hd)
theorem e_lendF (h : ∀ B, PE X e (rdE (js0 S) B M W0 .fresh f)) (hM : M 0 = false := by rfl) : PE X e (rdE (jsO S) B M W .fresh (eLendF f)) := by
  refine ⟨fun pins s σ H Q I ⟨g, m, o, P, E, ok, ⟨h0, hf⟩, q, xo⟩ => ?_⟩
  obtain ⟨g2, B2, ok2, out⟩ := lend ok h0 hM
  refine (h B2).run pins s σ H Q I ⟨g2, _, (), _, _, ok2, hf, fun d _ g3 v H3 ⟨hd, p⟩ l3 ok3 w => ?_, XOut.no⟩
  obtain ⟨g1, l1, ok1, _, c1⟩ := out g3 H3 l3 ok3.b
  exact q d o g1 v H3 p l1 ok1 (c1 d v w hd)
theorem t_lend (h : ∀ B, PT X e (rdT (js0 S) B M W0 ft)) (hM : M 0 = false := by rfl) : PT X e (rdT (jsO S) B M W (tLend ft)) := by
  refine ⟨fun pins s σ H Q I ⟨g, m, o, P, E, ok, ⟨h0, hf⟩, q, xo⟩ => ?_⟩
  obtain ⟨g2, B2, ok2, out⟩ := lend ok h0 hM
  refine (h B2).run pins s σ H Q I ⟨g2, _, (), _, _, ok2, hf, fun d _ g3 H3 p l3 ok3 => ?_, XOut.no⟩
  obtain ⟨g1, l1, ok1, _, _⟩ := out g3 H3 l3 ok3.b
  exact q d o g1 H3 p l1 ok1
end
end Mp

/-! O3: attributes and methods of frozen instances; methods of the object that is made; making. -/
namespace Mp
open PySem PySem.Spec L2
open PyProof.Rows hiding St
variable {J J' : Type}
def getK (k : Str) : List (Str × D) → Option D
  | [] => none
  | (g, x) :: r => if g = k then some x else getK k r
/-- the facts of a class -/
structure ClsT (S : Js J) (c : Nat) (attrs : List Str) : Prop where
  cls : Cls S.K (S.cl c)
  no : ∀ f ∈ attrs, NoAttr S.K (S.cl c) f
/-- a method -/
structure Mth (S : Js J) (P : Program) (w : World) (mg : Str → Option Value) (base : Heap) (k : Nat) (c : Nat) (nm : Str) (n : Nat) (φ : Fv J) : Prop where
  ex : ∃ f fd ps, Meth S.K (S.cl c) nm f ∧ FnG P w S.K mg base (L2.CX P w) k f fd ps (spF S n φ) ∧ Binds S.K fd ps []
  ln : ∀ ds j P E, φ ds j P E → ds.length = n
def tMthG (C : Addr) (m : Str) (sp : Sp) (E : St → XK) (ta : TE) (t : TA) : TE := fun σ H Q => ta σ H fun x H1 => ∃ a dx fs, x = .ref a ∧ H1 a = some (.ins C dx fs) ∧ fs.lookup m = none ∧ t σ H1 fun vs H2 => sp (x :: vs) H2 Q (E σ)
section
variable {X : Cx} {CX : CXT} {k : Nat} {f C : Addr} {fd : FuncData} {ps : List Str} {sp : Sp} {E : St → XK} {x m : Str} {p pos apos : Pos} {e o : Expr} {es : List Expr} {ta : TE} {t : TA}
theorem pe_mthG {pl : Sem Bool} (he : PE X o ta) (c : Cls X.K C) (hm : Meth X.K C m f) (F : FnG X.prog X.w X.K X.mg X.base CX k f fd ps sp) (hr : Room k X.A) (hgd : X.A.guards = some []) (hb : Binds X.K fd ps []) (hx : ∀ σ, PassesAt CX X σ (E σ)) (ha : PA X (e :: es) t)
    (hst : starEach (e :: es) X.env = (false, eval e X.env) :: starEach es X.env) (hpl : (backTo pos (starEach es X.env)).any (·.1) = false)
    (ht : eval (.Call (.Attribute o m apos) (e :: es) [] pos) X.env = (do
      let ov ← eval o X.env
      standAt apos.atName
      let (f, first) ← holding [ov] (getMethod ov m pl)
      callWith pos f first (backTo pos (starEach (e :: es) X.env)) (backToKw pos (keywordEach [] X.env)))) :
    PE X (.Call (.Attribute o m apos) (e :: es) [] pos) (tMthG C m sp E ta t) := by
  refine ⟨fun pins s σ H Q I h => ?_⟩
  refine PySem.W.methodCall_KW (pl := pl) (thn (he.run pins s σ H _ I h) fun u s1 ⟨x, H1, I1, rx, a, dx, fs, ex, ea, l, q⟩ => ?_) ht
  subst ex
  obtain rfl : u = Value.ref a := rx
  refine getmeth_ok I1 ea c hm l ?_
  refine PySem.W.callWith_K (first := [.ref a]) (h₀ := X.base) I.ok.mod.kin hm.kp (thn (ha.run pos pins s1 σ H1 _ I1 q) fun us s2 ⟨vs, H2, I2, r, q2⟩ => ⟨I2.kIn, ?_⟩) hst hpl
  exact run_fnGS (us := .ref a :: us) (vs := .ref a :: vs) F hr hgd hb (hx σ) I2 (.cons rfl r) q2
theorem pe_mthG0 {pl : Sem Bool} (he : PE X o ta) (c : Cls X.K C) (hm : Meth X.K C m f) (F : FnG X.prog X.w X.K X.mg X.base CX k f fd ps sp) (hr : Room k X.A) (hgd : X.A.guards = some []) (hb : Binds X.K fd ps []) (hx : ∀ σ, PassesAt CX X σ (E σ))
    (ht : eval (.Call (.Attribute o m apos) [] [] pos) X.env = (do
      let ov ← eval o X.env
      standAt apos.atName
      let (f, first) ← holding [ov] (getMethod ov m pl)
      callWith pos f first (backTo pos (starEach [] X.env)) (backToKw pos (keywordEach [] X.env)))) :
    PE X (.Call (.Attribute o m apos) [] [] pos) (tMthG C m sp E ta tNil) := by
  refine ⟨fun pins s σ H Q I h => ?_⟩
  refine PySem.W.methodCall_KW (pl := pl) (thn (he.run pins s σ H _ I h) fun u s1 ⟨x, H1, I1, rx, a, dx, fs, ex, ea, l, q⟩ => ?_) ht
  subst ex
  obtain rfl : u = Value.ref a := rx
  refine getmeth_ok I1 ea c hm l ?_
  exact PySem.W.callWith_K0 (first := [.ref a]) I1.kIn hm.kp (run_fnGS (us := [.ref a]) (vs := [.ref a]) F hr hgd hb (hx σ) I1 (.cons rfl .nil) q)
def tMakG (C : Addr) (sp : Sp) (E : St → XK) (t : TA) : TE := fun σ H Q => t σ H fun vs H1 => ∀ x dx, H1 x = none → H1 dx = none → dx ≠ x →
  sp (.ref x :: vs) (upd (upd H1 dx (.own x)) x (.ins C dx [])) (fun v H2 => v = .non ∧ Q (.ref x) H2) (E σ)
theorem under_guards {A : Around} {C : Addr} {us : List Value} {kw : List (Str × Value)} (h : A.guards = some []) : (A.under (.builtin "type.__call__" ⟨.ref C :: us, kw⟩)).guards = some [] := by
  first | exact h | (simp [Around.under, Code.envs, Code.isFrame, pushEnvs, guardIds]; first | exact h | simpa using h)
theorem run_makG {pins : List (Addr × Obj)} {σ : St} {H : Hp} {s : Shared} {Q : VK} {us : List Value} {vs : List V} (M : Mk X.K C f) (F : FnG X.prog X.w X.K X.mg X.base CX k f fd ps sp) (hr : Room (k + 1) X.A) (hgd : X.A.guards = some []) (hb : Binds X.K fd ps [])
    (hx : PassesAt CX X σ (E σ)) (I : Inv X pins σ H s) (r : Vals vs us)
    (h : ∀ x dx, H x = none → H dx = none → dx ≠ x → sp (.ref x :: vs) (upd (upd H dx (.own x)) x (.ins C dx [])) (fun v H2 => v = .non ∧ Q (.ref x) H2) (E σ)) :
    wpAny (model X.prog X.w) X.A (call (.ref C) us) (EP X pins σ Q) X.xe s := by
  have hq := h (s.heap.objs.size + 1) s.heap.objs.size (I.hok.fresh (Nat.le_succ _)) (I.hok.fresh (Nat.le_refl _)) (Nat.ne_of_lt (Nat.lt_succ_self _))
  have I2 := Inv.made (C := C) I
  have r2 : Vals (V.ref (s.heap.objs.size + 1) :: vs) (Value.ref (s.heap.objs.size + 1) :: us) := .cons rfl r
  have hl : (Value.ref (s.heap.objs.size + 1) :: us).length = ps.length := by
    have e := r2.length
    rw [F.len _ _ _ _ hq] at e
    exact e.symm
  have b := hb { s with heap := (s.heap.push PySem.W.emptyDict).push (PySem.W.instObj C s.heap.objs.size) } (Value.ref (s.heap.objs.size + 1) :: us) I2.kIn (by rw [List.append_nil]; exact hl)
  rw [List.append_nil] at b
  refine wpAny_call (make_map (f := f) I.kIn M.makes M.init (beq_iff_eq.mp M.fn) (codeAny_mono (F.run _ X.stack _ _ ⟨Value.ref (s.heap.objs.size + 1) :: us, []⟩ (Value.ref (s.heap.objs.size + 1) :: us) _ _ (E σ) (hr.make C us []) (under_guards hgd)
    (I2.env0.make C us []) b r2 hq) fun r s' hq' => ?_))
  cases r with
  | error e => exact hx pins _ _ e s' I2 hq'
  | ok fl =>
    cases fl with
    | ret u =>
      obtain ⟨v, H', I3, rv, ev, q3⟩ := I2.after hq'
      subst ev
      exact ⟨rv, ⟨V.ref (s.heap.objs.size + 1), H', I3, rfl, q3⟩⟩
    | next => exact False.elim hq'
    | brk => exact False.elim hq'
    | cont => exact False.elim hq'
theorem pe_makG (M : Mk X.K C f) (F : FnG X.prog X.w X.K X.mg X.base CX k f fd ps sp) (hr : Room (k + 1) X.A) (hgd : X.A.guards = some []) (hg : Gl X x) (hm : X.mg x = some (.ref C)) (hb : Binds X.K fd ps []) (hx : ∀ σ, PassesAt CX X σ (E σ))
    (ha : PA X (e :: es) t) (hdb : (x == ("__debug__" : Str)) = false) (he : starEach (e :: es) X.env = (false, eval e X.env) :: starEach es X.env) (hpl : (backTo pos (starEach es X.env)).any (·.1) = false) :
    PE X (.Call (.Name x p) (e :: es) [] pos) (tMakG C sp E t) := by
  refine ⟨fun pins s σ H Q I h => ?_⟩
  refine wpAny_Call_Name_kw (ld_glob I hg hm ?_ hdb)
  refine PySem.W.callWith_K (h₀ := X.base) I.ok.mod.kin M.kp (thn (ha.run pos pins s σ H _ I h) fun us s1 ⟨vs, H1, I1, r, q⟩ => ⟨I1.kIn, ?_⟩) he hpl
  exact run_makG M F hr hgd hb (hx σ) I1 r q
end

/-! ### frozen instances -/
def eAt (c : Nat) (f : Str) (fo : Ev J) (m : Sd) (j : J) (P : D → J → Prop) (E : XP J) : Prop := fo m j (fun x j1 => ∃ kds d, x = .ins c kds ∧ getK f kds = some d ∧ P d j1) E
def eMt1 (c : Nat) (nm : Str) (φ : Fv J) (fo : Ev J) (fa : Av J) (m : Sd) (j : J) (P : D → J → Prop) (E : XP J) : Prop :=
  fo m j (fun x j1 => ∃ kds, x = .ins c kds ∧ getK nm kds = none ∧ fa m j1 (fun xs j2 => φ (x :: xs) j2 P (fun e j' => E e m j')) E) E
/-- .. of the object that is made -/
def eMtO (c : Nat) (nm : Str) (φ : Fv Ob) (fo : Ev Ob) (fa : Av Ob) (m : Sd) (o : Ob) (P : D → Ob → Prop) (E : XP Ob) : Prop :=
  fo m o (fun x o1 => x = .obj o1.ad ∧ o1.c = c ∧ getF nm o1.fs = none ∧ fa m o1 (fun xs o2 => φ (x :: xs) o2 P (fun e j' => E e m j')) E) E
/-- a new object -/
def eMak (c : Nat) (φ : Fv Ob) (fa : Av J) (m : Sd) (j : J) (P : D → J → Prop) (E : XP J) : Prop :=
  fa m j (fun xs j1 => ∀ a, φ (.obj a :: xs) ⟨a, c, []⟩ (fun d o => d = .non ∧ o.ad = a ∧ o.c = c ∧ P o.flat j1) (fun e _ => E e m j1)) E
instance {c : Nat} {f : Str} {fo : Ev J} [h : MoE fo] : MoE (eAt c f fo) := ⟨fun h1 q x => h.mo h1 (fun _ _ ⟨k, d, a, b, p⟩ => ⟨k, d, a, b, q _ _ p⟩) x⟩
instance {c : Nat} {nm : Str} {φ : Fv J} {fo : Ev J} {fa : Av J} [h : MoE fo] [ha : MoA fa] [hf : MoF φ] : MoE (eMt1 c nm φ fo fa) := ⟨fun h1 q x => h.mo h1 (fun _ _ ⟨k, a, b, p⟩ => ⟨k, a, b, ha.mo p (fun _ _ p => hf.mo p q fun _ _ => x _ _ _) x⟩) x⟩
instance {c : Nat} {nm : Str} {φ : Fv Ob} {fo : Ev Ob} {fa : Av Ob} [h : MoE fo] [ha : MoA fa] [hf : MoF φ] : MoE (eMtO c nm φ fo fa) := ⟨fun h1 q x => h.mo h1 (fun _ _ ⟨k, a, b, p⟩ => ⟨k, a, b, ha.mo p (fun _ _ p => hf.mo p q fun _ _ => x _ _ _) x⟩) x⟩
instance {c : Nat} {φ : Fv Ob} {fa : Av J} [ha : MoA fa] [hf : MoF φ] : MoE (eMak c φ fa) := ⟨fun h1 q x => ha.mo h1 (fun _ _ p a => hf.mo (p a) (fun _ _ ⟨a, b, c, p⟩ => ⟨a, b, c, q _ _ p⟩) fun _ _ => x _ _ _) x⟩
section
variable {S : Js J} {B : Bs} {M : Nat → Bool} {W : WX} {X : Cx} {e o : Expr} {es : List Expr} {pos p apos : Pos} {fo : Ev J} {fr : Av J} {φ : Fv J} {k n c : Nat} {nm f x : Str} {attrs : List Str} {ci : Bool}
theorem getK_of {F : Hp} : ∀ {kds : List (Str × D)} {kvs : List (Str × V)} {d : D}, kds.map Prod.fst = kvs.map Prod.fst → RpL S F (kds.map Prod.snd) (kvs.map Prod.snd) → getK f kds = some d → ∃ v, kvs.lookup f = some v ∧ Rp S F d v
  | [], [], d, _, _, e => by cases e
  | (g, x) :: r, (g', y) :: r', d, h1, h2, e => by
    simp only [List.map_cons, List.cons.injEq] at h1
    obtain ⟨rfl, h1⟩ := h1
    cases h2 with
    | cons r1 r2 =>
      unfold getK at e
      by_cases c : g = f
      · rw [if_pos c] at e; cases e
        exact ⟨y, by simp [List.lookup, c], r1⟩
      · rw [if_neg c] at e
        obtain ⟨v, e1, r3⟩ := getK_of h1 r2 e
        exact ⟨v, by rw [List.lookup_cons, show (f == g) = false from beq_eq_false_iff_ne.mpr (Ne.symm c)]; exact e1, r3⟩
  | [], _ :: _, _, h, _, _ => by simp at h
  | _ :: _, [], _, h, _, _ => by simp at h
theorem getK_no : ∀ {kds : List (Str × D)} {kvs : List (Str × V)}, kds.map Prod.fst = kvs.map Prod.fst → getK f kds = none → kvs.lookup f = none
  | [], [], _, _ => rfl
  | (g, x) :: r, (g', y) :: r', h1, e => by
    simp only [List.map_cons, List.cons.injEq] at h1
    obtain ⟨rfl, h1⟩ := h1
    unfold getK at e
    by_cases c : g = f
    · rw [if_pos c] at e; cases e
    · rw [if_neg c] at e
      rw [List.lookup_cons, show (f == g) = false from beq_eq_false_iff_ne.mpr (Ne.symm c)]
      exact getK_no h1 e
  | [], _ :: _, h, _ => by simp at h
  | _ :: _, [], h, _ => by simp at h
theorem ins_of {F : Hp} {kds : List (Str × D)} {v : V} (h : Rp S F (.ins c kds) v) : ∃ a dx kvs, v = .ref a ∧ F a = some (.ins (S.cl c) dx kvs) ∧ kds.map Prod.fst = kvs.map Prod.fst ∧ RpL S F (kds.map Prod.snd) (kvs.map Prod.snd) := by
  cases h; exact ⟨_, _, _, rfl, by assumption, by assumption, by assumption⟩
theorem e_at (hK : X.K = S.K) (T : ClsT S c attrs) (hf : f ∈ attrs) (he : PE X e (rdE S B M W (ofB ci) fo)) (hb : attributeBase e f X.env (eval e X.env) = eval e X.env) : PE X (.Attribute e f pos) (rdE S B M W (ofB ci) (eAt c f fo)) :=
  PE.imp (pe_fld he hb) fun r H Q ⟨g, m, j, P, E, ok, h, q, xo⟩ => by
    refine ⟨g, m, j, _, E, ok, h, fun d j1 g1 v H1 hh l1 ok1 w => ?_, xo⟩
    obtain ⟨kds, d', rfl, hg, p⟩ := hh
    obtain ⟨a, dx, kvs, rfl, ha, hk, rk⟩ := ins_of (rp_hp w)
    obtain ⟨v, e1, r1⟩ := getK_of hk rk hg
    exact ⟨a, _, dx, kvs, v, rfl, (ok1.b.sub ci) _ _ ha, hK ▸ T.cls, hK ▸ T.no f hf, e1, q d' j1 g1 v H1 p l1 ok1 (by cases ci <;> exact r1)⟩
theorem tMth_rd (hφ : ∀ ds j P E, φ ds j P E → ds.length = n) {R : St} {H : Hp} {Q : VK} (h : rdE S B M W .clean (eMt1 c nm φ fo fr) R H Q) : tMthG (S.cl c) nm (spF S n φ) (WE W) (rdE S B M W .clean fo) (rdA S B M W true fr) R H Q := by
  obtain ⟨g, m, j, P, E, ok, hf, q, xo⟩ := h
  refine ⟨g, m, j, _, E, ok, hf, fun x j0 g0 v0 H0 p0 l0 ok0 w0 => ?_, xo⟩
  obtain ⟨kds, rfl, hg, p0⟩ := p0
  obtain ⟨a, dx, kvs, rfl, ha, hk, rk⟩ := ins_of w0
  refine ⟨a, dx, kvs, rfl, (ok0.b.fg.trans ok0.b.gh) _ _ ha, getK_no hk hg, g0, m, j0, _, E, ok0, p0, fun xs j1 g1 vs H1 p1 l1 ok1 w1 => ?_, xo.le l0.f⟩
  have w0' : Rp S g1.F (.ins c kds) (.ref a) := Rp.mono l1.f w0
  refine ⟨g1.F, g1.A, j1, _, P, _, ok1.b.fg.trans ok1.b.gh, fun b o e => ok1.b.ga b o (ok1.b.fg b o e), ok1.b.jr, ok1.b.sm, .cons w0' w1, hφ _ _ _ _ p1, p1, fun d j' F' A' H' v pd pp rv => ?_, fun e j' F' A' H' cls dx pe pp rv => ?_⟩
  · obtain ⟨l2, ok2⟩ := post_clean ok1.b pp
    exact q d j' _ v H' pd ((l0.trans l1).trans l2) ⟨ok2, ok1.s.le l2⟩ rv
  · obtain ⟨l2, ok2⟩ := post_clean ok1.b pp
    exact xo e m j' _ R H' cls dx pe ((l0.trans l1).trans l2).f ⟨ok2, ok1.s.le l2⟩ rv
theorem tMtO_rd {S : Js J} {fo : Ev Ob} {fr : Av Ob} {φ : Fv Ob} (hM : True) (hφ : ∀ ds j P E, φ ds j P E → ds.length = n) {R : St} {H : Hp} {Q : VK} (h : rdE (jsO S) B M W .clean (eMtO c nm φ fo fr) R H Q) :
    tMthG (S.cl c) nm (spF (jsO S) n φ) (WE W) (rdE (jsO S) B M W .clean fo) (rdA (jsO S) B M W true fr) R H Q := by
  obtain ⟨g, m, j, P, E, ok, hf, q, xo⟩ := h
  refine ⟨g, m, j, _, E, ok, hf, fun x j0 g0 v0 H0 p0 l0 ok0 w0 => ?_, xo⟩
  obtain ⟨rfl, hc, hg, p0⟩ := p0
  have jr : ObR S j0 g0.F g0.A H0 := ok0.b.jr
  obtain ⟨dx, kvs, e1, e2, e3, e4⟩ := jr.ex
  have hv : v0 = .ref j0.ad := by cases w0; rfl
  subst hv
  refine ⟨j0.ad, dx, kvs, rfl, by rw [← hc]; exact e1, e4.get0 hg, g0, m, j0, _, E, ok0, p0, fun xs j1 g1 vs H1 p1 l1 ok1 w1 => ?_, xo.le l0.f⟩
  refine ⟨g1.F, g1.A, j1, _, P, _, ok1.b.fg.trans ok1.b.gh, fun b o e => ok1.b.ga b o (ok1.b.fg b o e), ok1.b.jr, ok1.b.sm, .cons (.obj _) w1, hφ _ _ _ _ p1, p1, fun d j' F' A' H' v pd pp rv => ?_, fun e j' F' A' H' cls dx pe pp rv => ?_⟩
  · obtain ⟨l2, ok2⟩ := post_clean ok1.b pp
    exact q d j' _ v H' pd ((l0.trans l1).trans l2) ⟨ok2, ok1.s.le l2⟩ rv
  · obtain ⟨l2, ok2⟩ := post_clean ok1.b pp
    exact xo e m j' _ R H' cls dx pe ((l0.trans l1).trans l2).f ⟨ok2, ok1.s.le l2⟩ rv
/-- behind the making of an object: it is frozen -/
theorem post_make {g : Gh} {H H' F' : Hp} {A' : Addr → Prop} {j : J} {o : Ob} {x dx : Addr} {kvs : List (Str × V)} (ok : OkB S B g H j) (hx : H x = none) (hdx : H dx = none)
    (p : FPost (jsO S) g.F (fun b => b = x ∨ b = dx) (upd (upd H dx (.own x)) x (.ins (S.cl c) dx kvs)) F' A' H' o) :
    ∃ g2, Le g g2 ∧ OkB S B g2 H' j ∧ Same F' g2.F ∧ Rp S g2.F o.flat (.ref o.ad) := by
  have jr : ObR S o F' A' H' := p.jr
  have hin : ∀ b u, H b = some u → upd (upd H dx (.own x)) x (.ins (S.cl c) dx kvs) b = some u ∧ ¬ (b = x ∨ b = dx) := fun b u e => by
    have n1 : b ≠ x := fun z => by rw [z, hx] at e; cases e
    have n2 : b ≠ dx := fun z => by rw [z, hdx] at e; cases e
    exact ⟨by rw [upd_ne n1, upd_ne n2]; exact e, fun z => z.elim n1 n2⟩
  have hno : ∀ b, upd (upd H dx (.own x)) x (.ins (S.cl c) dx kvs) b = none → H b = none := fun b e => by
    cases z : H b with
    | none => rfl
    | some u => rw [(hin b u z).1] at e; cases e
  have keep : ∀ b u, H b = some u → H' b = some u := fun b u e => p.keep b u (hin b u e).1 (hin b u e).2
  have arN : ∀ b, b = o.ad ∨ b ∈ ownsF o.fs → H b = none := fun b hb => by
    rcases p.af b (jr.area hb).1 with z | z
    · rcases z with z | z
      · rw [z]; exact hx
      · rw [z]; exact hdx
    · exact hno b z
  have sF : Same F' (o.over H' F') := fun b u e => by
    by_cases hb : b = o.ad ∨ b ∈ ownsF o.fs
    · exact (p.fa b u e (jr.area hb).1).elim
    · rw [over_out hb]; exact e
  have inF : ∀ b u, o.over H' F' b = some u → g.F b = some u ∨ H b = none := fun b u e => by
    by_cases hb : b = o.ad ∨ b ∈ ownsF o.fs
    · exact .inr (arN b hb)
    · rw [over_out hb] at e
      rcases p.ff b u e with z | z
      · exact .inl z
      · exact .inr (hno b z)
  have gg : Same g.G (un2 (o.over H' F') g.G) := fun b u e => by
    unfold un2
    split
    · rename_i u' h
      rcases inF b u' h with z | z
      · rw [ok.fg b u' z] at e; exact e
      · rw [ok.gh b u e] at z; cases z
    · exact e
  refine ⟨⟨o.over H' F', un2 (o.over H' F') g.G, g.A⟩, ⟨p.sub.trans sF, gg, fun b u e => ?_⟩, ⟨un2_l, fun b u e => ?_, fun b u e z => ?_, ?_, (ok.f0.trans p.sub).trans sF, fun b u e => ?_, ok.a0, fun b u e n => keep b u (ok.h0 b u e n), fun b e => ok.h1 b (hno b (p.dm b e)), p.sm⟩, sF, ?_⟩
  · exact (inF b u e).imp id fun z => ok.gh.free z
  · rcases un2_cases e with e | ⟨_, e⟩
    · by_cases hb : b = o.ad ∨ b ∈ ownsF o.fs
      · rw [over_in hb] at e; exact e
      · rw [over_out hb] at e; exact p.fh b u e
    · exact keep b u (ok.gh b u e)
  · rcases un2_cases e with e | ⟨_, e⟩
    · rcases inF b u e with q | q
      · exact ok.ga b u (ok.fg b u q) z
      · exact S.dom ok.jr z q
    · exact ok.ga b u e z
  · exact S.frame ok.jr (p.sub.trans sF) fun b hb => by
      cases z : H b with
      | none => exact (S.dom ok.jr hb z).elim
      | some u => exact keep b u z
  · rcases un2_cases e with e | ⟨_, e⟩
    · rcases inF b u e with q | q
      · exact ok.g0 b u (ok.fg b u q)
      · exact .inr (ok.h1 b q)
    · exact ok.g0 b u e
  · exact jr.flat (S' := S) rfl rfl rfl sF fun b hb u e => (over_in hb).trans e
theorem ExR.cv {S : Js J} {S' : Js J'} {F : Hp} {e : Ex} {cls : Value} {dx : Option Addr} (hK : S.K = S'.K) (hR : S.R = S'.R) (hc : S.cl = S'.cl) (h1 : S.xc = S'.xc) (h2 : S.xf = S'.xf) (h : ExR S F e cls dx) : ExR S' F e cls dx := by
  obtain ⟨a, b⟩ := h
  refine ⟨by rw [← h1]; exact a, ?_⟩
  split at b
  · exact b
  · obtain ⟨a, v, h3, h4, h5⟩ := b
    exact ⟨a, v, h3, by rw [← h2]; exact h4, h5.cv hK hR hc⟩
theorem tMak_rd {φ : Fv Ob} (hφ : ∀ ds j P E, φ ds j P E → ds.length = n) {R : St} {H : Hp} {Q : VK} (h : rdE S B M W .clean (eMak c φ fr) R H Q) : tMakG (S.cl c) (spF (jsO S) n φ) (WE W) (rdA S B M W true fr) R H Q := by
  obtain ⟨g, m, j, P, E, ok, hf, q, xo⟩ := h
  refine ⟨g, m, j, _, E, ok, hf, fun xs j1 g1 vs H1 p1 l1 ok1 w1 x dx hx hdx hne => ?_, xo⟩
  have hin : ∀ b u, H1 b = some u → upd (upd H1 dx (.own x)) x (.ins (S.cl c) dx []) b = some u ∧ ¬ (b = x ∨ b = dx) := fun b u e => by
    have n1 : b ≠ x := fun z => by rw [z, hx] at e; cases e
    have n2 : b ≠ dx := fun z => by rw [z, hdx] at e; cases e
    exact ⟨by rw [upd_ne n1, upd_ne n2]; exact e, fun z => z.elim n1 n2⟩
  have fh := ok1.b.fg.trans ok1.b.gh
  have p1 := p1 x
  refine ⟨g1.F, fun b => b = x ∨ b = dx, ⟨x, c, []⟩, .obj x :: xs, _, _, fun b u e => (hin b u (fh b u e)).1, fun b u e => (hin b u (fh b u e)).2, ?_, let ⟨a, b, e⟩ := ok1.b.sm; ⟨a, b, (hin _ _ e).1⟩, .cons (.obj _) (RpL.cv (S := S) (S' := jsO S) rfl rfl rfl w1), hφ _ _ _ _ p1, p1, fun d o F' A' H' v pd pp rv => ?_, fun e o F' A' H' cls dx pe pp rv => ?_⟩
  · refine ⟨⟨dx, [], upd_same, by rw [upd_ne hne, upd_same], .inr rfl, .nil⟩, .inl rfl, List.nodup_nil, fun b hb => ?_⟩
    rcases hb with rfl | rfl
    · rw [upd_same]; intro z; cases z
    · rw [upd_ne hne, upd_same]; intro z; cases z
  · obtain ⟨rfl, ha, hc, pd⟩ := pd
    obtain ⟨g2, l2, ok2, _, r2⟩ := post_make ok1.b hx hdx pp
    refine ⟨non_of rv, ?_⟩
    rw [ha] at r2
    exact q _ j1 g2 _ H' pd (l1.trans l2) ⟨ok2, ok1.s.le l2⟩ r2
  · obtain ⟨g2, l2, ok2, s2, _⟩ := post_make ok1.b hx hdx pp
    exact xo e m j1 g2 R H' cls dx pe (l1.trans l2).f ⟨ok2, ok1.s.le l2⟩ ((ExR.cv (S := jsO S) (S' := S) rfl rfl rfl rfl rfl rv).mono s2)
end
/-- a class that may be made -/
structure Mkr (S : Js J) (P : Program) (w : World) (mg : Str → Option Value) (base : Heap) (k : Nat) (c : Nat) (x : Str) (n : Nat) (φ : Fv Ob) : Prop where
  ex : ∃ f fd ps, Mk S.K (S.cl c) f ∧ FnG P w S.K mg base (L2.CX P w) k f fd ps (spF (jsO S) n φ) ∧ Binds S.K fd ps [] ∧ mg x = some (.ref (S.cl c))
  ln : ∀ ds j P E, φ ds j P E → ds.length = n
section
variable {S : Js J} {B : Bs} {M : Nat → Bool} {W : WX} {X : Cx} {e o : Expr} {es : List Expr} {pos p apos : Pos} {fo : Ev J} {fr : Av J} {φ : Fv J} {k n c : Nat} {nm f x : Str} {attrs : List Str} {pl : Sem Bool}
theorem atC (hK : X.K = S.K) (T : ClsT S c attrs) (hf : f ∈ attrs) (he : PE X e (rdE S B M W .clean fo)) (hb : attributeBase e f X.env (eval e X.env) = eval e X.env := by rfl) : PE X (.Attribute e f pos) (rdE S B M W .clean (eAt c f fo)) := e_at (ci := true) hK T hf he hb
theorem mthC (hK : X.K = S.K) (tk : Takes X W) (T : ClsT S c attrs) (C : Mth S X.prog X.w X.mg X.base k c nm n φ) (hr : Room k X.A) (hgd : X.A.guards = some []) (ho : PE X o (rdE S B M W .clean fo)) (ha : PA X (e :: es) (rdA S B M W true fr))
    (hst : starEach (e :: es) X.env = (false, eval e X.env) :: starEach es X.env := by rfl) (hpl : (backTo pos (starEach es X.env)).any (·.1) = false := by rfl)
    (ht : eval (.Call (.Attribute o nm apos) (e :: es) [] pos) X.env = (do
      let ov ← eval o X.env
      standAt apos.atName
      let (f, first) ← holding [ov] (getMethod ov nm pl)
      callWith pos f first (backTo pos (starEach (e :: es) X.env)) (backToKw pos (keywordEach [] X.env))) := by rfl) : PE X (.Call (.Attribute o nm apos) (e :: es) [] pos) (rdE S B M W .clean (eMt1 c nm φ fo fr)) := by
  obtain ⟨f, fd, ps, h1, h2, h3⟩ := C.ex
  exact PE.imp (pe_mthG ho (hK ▸ T.cls) (hK ▸ h1) (hK ▸ h2) hr hgd (hK ▸ h3) (passAt tk) ha hst hpl ht) fun _ _ _ h => tMth_rd C.ln h
theorem mthC0 (hK : X.K = S.K) (tk : Takes X W) (T : ClsT S c attrs) (C : Mth S X.prog X.w X.mg X.base k c nm n φ) (hr : Room k X.A) (hgd : X.A.guards = some []) (ho : PE X o (rdE S B M W .clean fo))
    (ht : eval (.Call (.Attribute o nm apos) [] [] pos) X.env = (do
      let ov ← eval o X.env
      standAt apos.atName
      let (f, first) ← holding [ov] (getMethod ov nm pl)
      callWith pos f first (backTo pos (starEach [] X.env)) (backToKw pos (keywordEach [] X.env))) := by rfl) : PE X (.Call (.Attribute o nm apos) [] [] pos) (rdE S B M W .clean (eMt1 c nm φ fo aNil)) := by
  obtain ⟨f, fd, ps, h1, h2, h3⟩ := C.ex
  refine PE.imp (pe_mthG0 ho (hK ▸ T.cls) (hK ▸ h1) (hK ▸ h2) hr hgd (hK ▸ h3) (passAt tk) ht) fun R H Q h => ?_
  obtain ⟨g, m, j, P, E, ok, hf, q, xo⟩ := tMth_rd C.ln h
  refine ⟨g, m, j, P, E, ok, hf, fun x j0 g0 v0 H0 p0 l0 ok0 w0 => ?_, xo⟩
  obtain ⟨a, dx, fs, h1, h2, h3, g', m', j', P', E', ok', hf', q', xo'⟩ := q x j0 g0 v0 H0 p0 l0 ok0 w0
  exact ⟨a, dx, fs, h1, h2, h3, q' _ _ g' [] H0 hf' (Le.refl g') ok' .nil⟩
theorem mthO {S : Js J} {fo : Ev Ob} {fr : Av Ob} {φ : Fv Ob} (hK : X.K = S.K) (tk : Takes X W) (T : ClsT S c attrs) (C : Mth (jsO S) X.prog X.w X.mg X.base k c nm n φ) (hr : Room k X.A) (hgd : X.A.guards = some []) (ho : PE X o (rdE (jsO S) B M W .clean fo)) (ha : PA X (e :: es) (rdA (jsO S) B M W true fr))
    (hst : starEach (e :: es) X.env = (false, eval e X.env) :: starEach es X.env := by rfl) (hpl : (backTo pos (starEach es X.env)).any (·.1) = false := by rfl)
    (ht : eval (.Call (.Attribute o nm apos) (e :: es) [] pos) X.env = (do
      let ov ← eval o X.env
      standAt apos.atName
      let (f, first) ← holding [ov] (getMethod ov nm pl)
      callWith pos f first (backTo pos (starEach (e :: es) X.env)) (backToKw pos (keywordEach [] X.env))) := by rfl) : PE X (.Call (.Attribute o nm apos) (e :: es) [] pos) (rdE (jsO S) B M W .clean (eMtO c nm φ fo fr)) := by
  obtain ⟨f, fd, ps, h1, h2, h3⟩ := C.ex
  have h1 : Meth S.K (S.cl c) nm f := h1
  have h2 : FnG X.prog X.w S.K X.mg X.base (L2.CX X.prog X.w) k f fd ps (spF (jsO S) n φ) := h2
  have h3 : Binds S.K fd ps [] := h3
  exact PE.imp (pe_mthG ho (hK ▸ T.cls) (hK ▸ h1) (hK ▸ h2) hr hgd (hK ▸ h3) (passAt tk) ha hst hpl ht) fun _ _ _ h => tMtO_rd trivial C.ln h
theorem mthO0 {S : Js J} {fo : Ev Ob} {φ : Fv Ob} (hK : X.K = S.K) (tk : Takes X W) (T : ClsT S c attrs) (C : Mth (jsO S) X.prog X.w X.mg X.base k c nm n φ) (hr : Room k X.A) (hgd : X.A.guards = some []) (ho : PE X o (rdE (jsO S) B M W .clean fo))
    (ht : eval (.Call (.Attribute o nm apos) [] [] pos) X.env = (do
      let ov ← eval o X.env
      standAt apos.atName
      let (f, first) ← holding [ov] (getMethod ov nm pl)
      callWith pos f first (backTo pos (starEach [] X.env)) (backToKw pos (keywordEach [] X.env))) := by rfl) : PE X (.Call (.Attribute o nm apos) [] [] pos) (rdE (jsO S) B M W .clean (eMtO c nm φ fo aNil)) := by
  obtain ⟨f, fd, ps, h1, h2, h3⟩ := C.ex
  have h1 : Meth S.K (S.cl c) nm f := h1
  have h2 : FnG X.prog X.w S.K X.mg X.base (L2.CX X.prog X.w) k f fd ps (spF (jsO S) n φ) := h2
  have h3 : Binds S.K fd ps [] := h3
  refine PE.imp (pe_mthG0 ho (hK ▸ T.cls) (hK ▸ h1) (hK ▸ h2) hr hgd (hK ▸ h3) (passAt tk) ht) fun R H Q h => ?_
  obtain ⟨g, m, j, P, E, ok, hf, q, xo⟩ := tMtO_rd trivial C.ln h
  refine ⟨g, m, j, P, E, ok, hf, fun x j0 g0 v0 H0 p0 l0 ok0 w0 => ?_, xo⟩
  obtain ⟨a, dx, fs, h1, h2, h3, g', m', j', P', E', ok', hf', q', xo'⟩ := q x j0 g0 v0 H0 p0 l0 ok0 w0
  exact ⟨a, dx, fs, h1, h2, h3, q' _ _ g' [] H0 hf' (Le.refl g') ok' .nil⟩
theorem makC {φ : Fv Ob} (hK : X.K = S.K) (tk : Takes X W) (C : Mkr S X.prog X.w X.mg X.base k c x n φ) (hr : Room (k + 1) X.A) (hgd : X.A.guards = some []) (ha : PA X (e :: es) (rdA S B M W true fr)) (hg : Gl X x := by rfl) (hdb : (x == ("__debug__" : Str)) = false := by decide)
    (he : starEach (e :: es) X.env = (false, eval e X.env) :: starEach es X.env := by rfl) (hpl : (backTo pos (starEach es X.env)).any (·.1) = false := by rfl) : PE X (.Call (.Name x p) (e :: es) [] pos) (rdE S B M W .clean (eMak c φ fr)) := by
  obtain ⟨f, fd, ps, h1, h2, h3, h4⟩ := C.ex
  exact PE.imp (pe_makG (hK ▸ h1) (hK ▸ h2) hr hgd hg h4 (hK ▸ h3) (passAt tk) ha hdb he hpl) fun _ _ _ h => tMak_rd C.ln h
end
end Mp

/-! O4: statements that change the object that is made. -/
namespace Mp
open PySem PySem.Spec L2
open PyProof.Rows hiding St
variable {J J' : Type}
section
variable {S : Js J} {B : Bs} {F H : Hp} {A A' : Addr → Prop} {g : Gh} {o o' : Ob} {fs : List (Str × Fld)} {kvs : List (Str × V)} {k f : Str}
theorem FldsR.area (s : ∀ b, A b → A' b) : ∀ {fs : List (Str × Fld)} {kvs : List (Str × V)}, FldsR S F H A fs kvs → FldsR S F H A' fs kvs
  | _, _, .nil => .nil
  | _, _, .cons (.val r) t => .cons (.val r) (t.area s)
  | _, _, .cons (.own e r a) t => .cons (.own e r (s _ a)) (t.area s)
theorem OkB.wrO {a : Addr} {u u' : HO} (k : OkB (jsO S) B g H o) (hA : g.A a) (ha : H a = some u') (nf : ∀ x y, u' ≠ .frz x y) (jr : ObR S o' g.F g.A (upd H a u)) : OkB (jsO S) B g (upd H a u) o' := by
  refine ⟨k.fg, fun b x e => ?_, k.ga, jr, k.f0, k.g0, k.a0, fun b x e n => ?_, fun b e => ?_, ?_⟩
  · rw [upd_ne (show b ≠ a from fun z => k.ga b x e (by rw [z]; exact hA))]; exact k.gh b x e
  · refine (upd_ne fun z => ?_).trans (k.h0 b x e n)
    rcases k.a0 a hA with q | q
    · exact n (z ▸ q)
    · rw [z, q] at e; cases e
  · by_cases hb : b = a
    · subst hb; rw [upd_same] at e; cases e
    · rw [upd_ne hb] at e; exact k.h1 b e
  · obtain ⟨x, y, e⟩ := k.sm
    exact ⟨x, y, by rw [upd_ne fun z => nf x y (by rw [z, ha] at e; exact Option.some.inj e)]; exact e⟩
theorem ObR.notOwn (h : ObR S o F A H) {C dx : Addr} {kvs : List (Str × V)} (e : H o.ad = some (.ins C dx kvs)) : o.ad ∉ ownsF o.fs := fun z => by
  obtain ⟨_, _, _, _, _, e4⟩ := h.ex
  obtain ⟨_, vs, q⟩ := e4.ownA _ z
  rw [e] at q; cases q
theorem ObR.putV {d : D} {v : V} (h : ObR S o F A H) (r : Rp S F d v) : ∃ dx kvs, H o.ad = some (.ins (S.cl o.c) dx kvs) ∧ kvs.length = o.fs.length ∧ ObR S (o.put f (.val d)) F A (upd H o.ad (.ins (S.cl o.c) dx (putF f v kvs))) := by
  obtain ⟨dx, kvs, e1, e2, e3, e4⟩ := h.ex
  have ne : dx ≠ o.ad := fun z => by rw [z, e1] at e2; cases e2
  refine ⟨dx, kvs, e1, e4.len.symm, ⟨dx, _, upd_same, (upd_ne ne).trans e2, e3, (e4.upd_ne (h.notOwn e1)).put (.val r)⟩, h.at_, (owns_putV h.nd).1, fun b hb => ?_⟩
  by_cases c : b = o.ad
  · rw [c, upd_same]; intro z; cases z
  · rw [upd_ne c]; exact h.dm b hb
theorem ObR.putO {xs : List D} {vs : List V} {b : Addr} (h : ObR S o F A H) (nb : ¬ A b) (e : H b = some (.lst vs)) (r : RpL S F xs vs) : ∃ dx kvs, H o.ad = some (.ins (S.cl o.c) dx kvs) ∧ kvs.length = o.fs.length ∧
    ObR S (o.put f (.own b xs)) F (fun a => A a ∨ a = b) (upd H o.ad (.ins (S.cl o.c) dx (putF f (.ref b) kvs))) := by
  obtain ⟨dx, kvs, e1, e2, e3, e4⟩ := h.ex
  have ne : dx ≠ o.ad := fun z => by rw [z, e1] at e2; cases e2
  have nb0 : b ∉ ownsF o.fs := fun z => nb (e4.ownA b z).1
  have nb1 : b ≠ o.ad := fun z => nb (z ▸ h.at_)
  refine ⟨dx, kvs, e1, e4.len.symm, ⟨dx, _, upd_same, (upd_ne ne).trans e2, .inl e3, ((e4.upd_ne (h.notOwn e1)).area fun _ => .inl).put (.own (by rw [upd_ne nb1]; exact e) r (.inr rfl))⟩, .inl h.at_, (owns_putO h.nd nb0).1, fun a ha => ?_⟩
  by_cases c : a = o.ad
  · rw [c, upd_same]; intro z; cases z
  · rw [upd_ne c]
    rcases ha with ha | ha
    · exact h.dm a ha
    · rw [ha, e]; intro z; cases z
theorem ObR.own {b : Addr} {xs : List D} (h : ObR S o F A H) (e : getF k o.fs = some (.own b xs)) : ∃ dx kvs vs, H o.ad = some (.ins (S.cl o.c) dx kvs) ∧ kvs.lookup k = some (.ref b) ∧ H b = some (.lst vs) ∧ RpL S F xs vs ∧ A b := by
  obtain ⟨dx, kvs, e1, e2, e3, e4⟩ := h.ex
  obtain ⟨v, h1, h2⟩ := e4.get e
  cases h2 with
  | own a r c => exact ⟨dx, kvs, _, e1, h1, a, r, c⟩
theorem ObR.setL {b : Addr} {xs ys : List D} {ws : List V} (h : ObR S o F A H) (e : getF k o.fs = some (.own b xs)) (r : RpL S F ys ws) : ObR S (o.setL k ys) F A (upd H b (.lst ws)) := by
  obtain ⟨dx, kvs, e1, e2, e3, e4⟩ := h.ex
  obtain ⟨a, vs, q⟩ := e4.ownA b (owns_mem e)
  have n1 : o.ad ≠ b := fun z => by rw [← z, e1] at q; cases q
  have n2 : dx ≠ b := fun z => by rw [← z, e2] at q; cases q
  refine ⟨⟨dx, kvs, by rw [upd_ne (show (o.setL k ys).ad ≠ b from n1)]; exact e1, by rw [upd_ne n2]; exact e2, e3, e4.setL r a e h.nd⟩, h.at_, by show (ownsF (Mp.setL k ys o.fs)).Nodup; rw [owns_setL]; exact h.nd, fun c hc => ?_⟩
  by_cases z : c = b
  · rw [z, upd_same]; intro z; cases z
  · rw [upd_ne z]; exact h.dm c hc
theorem Le.hide1 {g g1 : Gh} {b : Addr} (l : Le g g1) (n : g.G b = none) : Le g (g1.hide b) := ⟨l.f, fun c u e => by
    have hc : c ≠ b := ne_of_none e n
    show (if c = b then none else g1.G c) = some u
    rw [if_neg hc]; exact l.g c u e, l.n⟩
/-- a list that is seen goes to the object -/
theorem OkB.give {b : Addr} {u : HO} (k : OkB (jsO S) B g H o) (hF : g.F b = none) (hG : g.G b = some u) (jr : ObR S o' g.F (fun a => g.A a ∨ a = b) H) : OkB (jsO S) B ⟨g.F, (g.hide b).G, fun a => g.A a ∨ a = b⟩ H o' := by
  have k2 := k.hide hF
  refine ⟨k2.fg, k2.gh, fun a x e z => ?_, jr, k2.f0, k2.g0, fun a z => ?_, k2.h0, k2.h1, k2.sm⟩
  · have e' : (if a = b then none else g.G a) = some x := e
    by_cases c : a = b
    · rw [if_pos c] at e'; cases e'
    · rw [if_neg c] at e'
      exact z.elim (k.ga a x e') c
  · rcases z with z | z
    · exact k.a0 a z
    · rw [z]; exact .inr (k.own0 hF hG)
end
/-! ### the combinators -/
def sOSet (c : Nat) (f : Str) (fe : Ev Ob) (m : Sd) (o : Ob) (P : Fl → Sd → Ob → Prop) (E : XP Ob) : Prop := fe m o (fun d o1 => m[0]? = some (some (.obj o1.ad)) ∧ o1.c = c ∧ o1.fs.length < 100 ∧ P .next m (o1.put f (.val d))) E
def sOSetO (c : Nat) (f : Str) (fe : Ev Ob) (m : Sd) (o : Ob) (P : Fl → Sd → Ob → Prop) (E : XP Ob) : Prop := fe m o (fun d o1 => m[0]? = some (some (.obj o1.ad)) ∧ o1.c = c ∧ o1.fs.length < 100 ∧ ∃ xs, d = .lst xs ∧ ∀ b, P .next m (o1.put f (.own b xs))) E
def sOAug (φ : D → D → Option D) (c : Nat) (f : Str) (fe : Ev Ob) (m : Sd) (o : Ob) (P : Fl → Sd → Ob → Prop) (E : XP Ob) : Prop := m[0]? = some (some (.obj o.ad)) ∧ o.c = c ∧ ∃ x, getF f o.fs = some (.val x) ∧
  fe m o (fun y o1 => o1.ad = o.ad ∧ o1.c = c ∧ o1.fs.length < 100 ∧ ∃ z, φ x y = some z ∧ P .next m (o1.put f (.val z))) E
def sOApp (c : Nat) (f : Str) (fe : Ev Ob) (m : Sd) (o : Ob) (P : Fl → Sd → Ob → Prop) (E : XP Ob) : Prop := m[0]? = some (some (.obj o.ad)) ∧ o.c = c ∧ ∃ b xs0, getF f o.fs = some (.own b xs0) ∧
  fe m o (fun d o1 => ∃ xs, getF f o1.fs = some (.own b xs) ∧ xs.length < LINE ∧ P .next m (o1.setL f (xs ++ [d]))) E
def sOPop (c : Nat) (f : Str) (m : Sd) (o : Ob) (P : Fl → Sd → Ob → Prop) (E : XP Ob) : Prop := m[0]? = some (some (.obj o.ad)) ∧ o.c = c ∧ ∃ b xs y, getF f o.fs = some (.own b xs) ∧ xs.getLast? = some y ∧ P .next m (o.setL f xs.dropLast)
def sOIns (c : Nat) (f : Str) (fk : Ev Ob) (m : Sd) (o : Ob) (P : Fl → Sd → Ob → Prop) (E : XP Ob) : Prop := m[0]? = some (some (.obj o.ad)) ∧ o.c = c ∧ ∃ b xs0, getF f o.fs = some (.own b xs0) ∧
  fk m o (fun kd o1 => ∃ (i : Int) (xs : List D) (y : D), kd = .int i ∧ o1.ad = o.ad ∧ o1.c = c ∧ getF f o1.fs = some (.own b xs) ∧ xs.getLast? = some y ∧ 0 ≤ i ∧ i < LIM ∧ xs.length < LINE ∧ P .next m (o1.setL f (xs.dropLast.take i.toNat ++ [y] ++ xs.dropLast.drop i.toNat))) E
def sOSetIx (c : Nat) (f : Str) (fk fe : Ev Ob) (m : Sd) (o : Ob) (P : Fl → Sd → Ob → Prop) (E : XP Ob) : Prop := fe m o (fun d o1 => m[0]? = some (some (.obj o1.ad)) ∧ o1.c = c ∧ ∃ b xs0, getF f o1.fs = some (.own b xs0) ∧
  fk m o1 (fun kd o2 => ∃ xs i n, getF f o2.fs = some (.own b xs) ∧ kd = .int i ∧ ixN xs.length i = some n ∧ P .next m (o2.setL f (xs.set n d))) E) E
def sOAugIx (φ : D → D → Option D) (c : Nat) (f : Str) (fk fe : Ev Ob) (m : Sd) (o : Ob) (P : Fl → Sd → Ob → Prop) (E : XP Ob) : Prop := m[0]? = some (some (.obj o.ad)) ∧ o.c = c ∧ ∃ b xs0, getF f o.fs = some (.own b xs0) ∧
  fk m o (fun kd o1 => ∃ xs i x, getF f o1.fs = some (.own b xs) ∧ kd = .int i ∧ atI xs i = some x ∧ fe m o1 (fun y o2 => ∃ xs2 n z, getF f o2.fs = some (.own b xs2) ∧ φ x y = some z ∧ ixN xs2.length i = some n ∧ P .next m (o2.setL f (xs2.set n z))) E) E
section
variable {c : Nat} {f : Str} {fk fe : Ev Ob} {φ : D → D → Option D}
instance [h : MoE fe] : MoS (sOSet c f fe) := ⟨fun h1 q x => h.mo h1 (fun _ _ ⟨a, b, d, p⟩ => ⟨a, b, d, q _ _ _ p⟩) x⟩
instance [h : MoE fe] : MoS (sOSetO c f fe) := ⟨fun h1 q x => h.mo h1 (fun _ _ ⟨a, b, d, xs, e, p⟩ => ⟨a, b, d, xs, e, fun b => q _ _ _ (p b)⟩) x⟩
instance [h : MoE fe] : MoS (sOAug φ c f fe) := ⟨fun ⟨a, b, y, e, h1⟩ q x => ⟨a, b, y, e, h.mo h1 (fun _ _ ⟨a, b, d, z, e, p⟩ => ⟨a, b, d, z, e, q _ _ _ p⟩) x⟩⟩
instance [h : MoE fe] : MoS (sOApp c f fe) := ⟨fun ⟨a, b, y, xs, e, h1⟩ q x => ⟨a, b, y, xs, e, h.mo h1 (fun _ _ ⟨a, b, d, p⟩ => ⟨a, b, d, q _ _ _ p⟩) x⟩⟩
instance : MoS (sOPop c f) := ⟨fun ⟨a, b, y, xs, e, h1, h2, p⟩ q x => ⟨a, b, y, xs, e, h1, h2, q _ _ _ p⟩⟩
instance [h : MoE fk] : MoS (sOIns c f fk) := ⟨fun ⟨a, b, y, xs, e, h1⟩ q x => ⟨a, b, y, xs, e, h.mo h1 (fun _ _ ⟨i, xs, y, e1, e2, e3, e4, e5, e6, e7, e8, p⟩ => ⟨i, xs, y, e1, e2, e3, e4, e5, e6, e7, e8, q _ _ _ p⟩) x⟩⟩
instance [h : MoE fk] [h' : MoE fe] : MoS (sOSetIx c f fk fe) := ⟨fun h1 q x => h'.mo h1 (fun _ _ ⟨a, b, y, xs, e, h2⟩ => ⟨a, b, y, xs, e, h.mo h2 (fun _ _ ⟨xs, i, n, e1, e2, e3, p⟩ => ⟨xs, i, n, e1, e2, e3, q _ _ _ p⟩) x⟩) x⟩
instance [h : MoE fk] [h' : MoE fe] : MoS (sOAugIx φ c f fk fe) := ⟨fun ⟨a, b, y, xs, e, h1⟩ q x => ⟨a, b, y, xs, e, h.mo h1 (fun _ _ ⟨xs, i, z, e1, e2, e3, h2⟩ => ⟨xs, i, z, e1, e2, e3, h'.mo h2 (fun _ _ ⟨xs, n, z, e1, e2, e3, p⟩ => ⟨xs, n, z, e1, e2, e3, q _ _ _ p⟩) x⟩) x⟩⟩
end
section
variable {S : Js J} {B : Bs} {M : Nat → Bool} {W : WX} {X : Cx} {e ek : Expr} {pos p np p2 ap ap2 np2 p3 fp fp2 : Pos} {fe fk : Ev Ob} {c : Nat} {f x : Str} {attrs : List Str} {φ : D → D → Option D} {g : Gh} {r : St} {H : Hp} {m : Sd} {o : Ob}
theorem Ok.self (ok : Ok (jsO S) B g M r H m o) (hM : M 0 = false) (h : m[0]? = some (some (.obj o.ad))) : r[0]? = some (some (.ref o.ad)) := by
  obtain ⟨v, h1, h2⟩ := ok.s.fr 0 _ h hM
  cases h2
  exact h1
theorem get_list : PGet X (rIxL X.K) := by
  intro pins s σ H o i ov iv Q I rx ry h
  obtain ⟨p, xs, i, z, rfl, rfl, hq, he, q⟩ := h
  cases rx
  obtain ⟨t, rfl⟩ := ry
  obtain ⟨its, r, pl, hz⟩ := I.list hq
  obtain ⟨j, h1, h2, h3, h4, h5⟩ := atI_get he
  obtain ⟨w, ew, rw'⟩ := r.get h2
  have hl := r.length
  have hn := line63
  have fin : EP X pins σ Q w s := ⟨z, H, I, rw', q⟩
  by_cases h0 : 0 ≤ i
  · have hj : i.toNat = j := by
      rw [seqIndex_of h0 h5] at h1
      exact Option.some.inj h1
    exact wpAny_getItem_list pl.isList h0 (by omega) (by rw [hj]; simpa using ew) fin
  · have hj : (i + (its.toArray.size : Int)).toNat = j := by
      rw [seqIndex_neg (by omega) h4] at h1
      rw [List.size_toArray, ← hl]
      exact Option.some.inj h1
    exact wpAny_getItem_list_neg pl.isList (by omega) (by rw [List.size_toArray] <;> omega) (by omega) (by rw [hj]; simpa using ew) fin
theorem s_oset (hK : X.K = S.K) (hM : M 0 = false) (T : ClsT S c attrs) (hf : f ∈ attrs) (hx : MtN X 0 x) (he : PE X e (rdE (jsO S) B M W .clean fe)) (hs : swapsWith e (some (.Attribute (.Name x np) f p)) pos.line X.env = pure false) :
    PS X (.Assign [.Attribute (.Name x np) f p] e pos) (rdS (jsO S) B M W (sOSet c f fe)) :=
  PS.imp (ps_fld hx.pe he hs) fun En r H ⟨g, m, o, P, E, ok, h, q, xo⟩ => by
    refine ⟨g, m, o, _, E, ok, h, fun d o1 g1 v H1 hh l1 ok1 w => ?_, xo⟩
    obtain ⟨h0, hc, hl, p⟩ := hh
    have jr : ObR S o1 g1.F g1.A H1 := ok1.b.jr
    obtain ⟨dx, kvs, e1, e2, jr2⟩ := jr.putV (f := f) (Rp.cv (S := jsO S) (S' := S) rfl rfl rfl w)
    refine ⟨_, ok1.self hM h0, o1.ad, _, dx, kvs, rfl, e1, hK ▸ hc ▸ T.cls, hK ▸ hc ▸ T.no f hf, by rw [e2]; omega, ?_⟩
    exact q _ _ _ p g1 r _ l1.f ⟨ok1.b.wrO jr.at_ e1 (by intro x y z; cases z) jr2, ok1.s⟩
theorem s_osetO (hK : X.K = S.K) (hM : M 0 = false) (T : ClsT S c attrs) (hf : f ∈ attrs) (hx : MtN X 0 x) (he : PE X e (rdE (jsO S) B M W .fresh fe)) (hs : swapsWith e (some (.Attribute (.Name x np) f p)) pos.line X.env = pure false) :
    PS X (.Assign [.Attribute (.Name x np) f p] e pos) (rdS (jsO S) B M W (sOSetO c f fe)) :=
  PS.imp (ps_fld hx.pe he hs) fun En r H ⟨g, m, o, P, E, ok, h, q, xo⟩ => by
    refine ⟨g, m, o, _, E, ok, h, fun d o1 g1 v H1 hh l1 ok1 w => ?_, xo⟩
    obtain ⟨h0, hc, hl, xs, rfl, p⟩ := hh
    obtain ⟨b, rfl, nb, ow⟩ := w
    obtain ⟨nF, vs, hG, rl⟩ := own_lst ow
    have jr : ObR S o1 g1.F g1.A H1 := ok1.b.jr
    have hb : H1 b = some (.lst vs) := ok1.b.gh _ _ hG
    obtain ⟨dx, kvs, e1, e2, jr2⟩ := jr.putO (f := f) (ok1.b.ga _ _ hG) hb (RpL.cv (S := jsO S) (S' := S) rfl rfl rfl rl)
    refine ⟨_, ok1.self hM h0, o1.ad, _, dx, kvs, rfl, e1, hK ▸ hc ▸ T.cls, hK ▸ hc ▸ T.no f hf, by rw [e2]; omega, ?_⟩
    have jr1 : ObR S o1 g1.F (fun a => g1.A a ∨ a = b) H1 := by
      obtain ⟨dx', kvs', a1, a2, a3, a4⟩ := jr.ex
      refine ⟨⟨dx', kvs', a1, a2, .inl a3, a4.area fun _ => .inl⟩, .inl jr.at_, jr.nd, fun a ha => ?_⟩
      rcases ha with ha | ha
      · exact jr.dm a ha
      · rw [ha, hb]; intro z; cases z
    have okg := ok1.b.give nF hG jr1
    exact q _ _ _ (p b) ⟨g1.F, (g1.hide b).G, fun a => g1.A a ∨ a = b⟩ r _ l1.f ⟨okg.wrO (.inl jr.at_) e1 (by intro x y z; cases z) jr2, ok.s.le (g' := ⟨g1.F, (g1.hide b).G, fun a => g1.A a ∨ a = b⟩) ⟨(l1.hide1 nb).f, (l1.hide1 nb).g, (l1.hide1 nb).n⟩⟩
theorem s_oaug {op : Operator} {h : Int → Int → Int} (hφ : ∀ d e z, φ d e = some z → ∃ a b, d = .int a ∧ e = .int b ∧ z = .int (h a b)) (ho : InOp X op (fun x y H Q => ∃ i j, x = .int i ∧ y = .int j ∧ Q (.int (h i j)) H)) (hK : X.K = S.K) (hM : M 0 = false) (T : ClsT S c attrs) (hf : f ∈ attrs) (hx : MtN X 0 x) (he : PE X e (rdE (jsO S) B M W .mix fe)) :
    PS X (.AugAssign (.Attribute (.Name x np) f p) op e pos) (rdS (jsO S) B M W (sOAug φ c f fe)) :=
  PS.imp (ps_fldaug hx.pe he ho) fun En r H ⟨g, m, o, P, E, ok, ⟨h0, hc, d0, hg, hh⟩, q, xo⟩ => by
    have jr : ObR S o g.F g.A H := ok.b.jr
    obtain ⟨dx, kvs, e1, e2, e3, e4⟩ := jr.ex
    obtain ⟨v, l1, fr⟩ := e4.get hg
    have rv : Rp S g.F d0 v := by cases fr; assumption
    refine ⟨_, ok.self hM h0, o.ad, _, dx, kvs, v, rfl, e1, hK ▸ hc ▸ T.cls, hK ▸ hc ▸ T.no f hf, l1, g, m, o, _, E, ok, hh, fun y o1 g1 v1 H1 h2 l1 ok1 w => ?_, xo⟩
    obtain ⟨h3, hc1, hl, z, hz, p⟩ := h2
    obtain ⟨a, b, rfl, rfl, rfl⟩ := hφ _ _ _ hz
    have jr1 : ObR S o1 g1.F g1.A H1 := ok1.b.jr
    obtain ⟨dx', kvs', q1, q2, jr2⟩ := jr1.putV (f := f) (d := .int (h a b)) (.int _)
    rw [h3] at q1 jr2
    refine ⟨a, b, int_of rv, int_of w, dx', kvs', by rw [q1, hc1, hc], by rw [q2]; omega, ?_⟩
    have e5 : S.cl o.c = S.cl o1.c := by rw [hc, hc1]
    rw [e5]
    exact q _ _ _ p g1 r _ l1.f ⟨ok1.b.wrO (a := o.ad) (h3 ▸ jr1.at_) q1 (by intro x y z; cases z) jr2, ok1.s⟩
theorem s_oapp (hK : X.K = S.K) (hM : M 0 = false) (T : ClsT S c attrs) (hf : f ∈ attrs) (hx : MtN X 0 x) (he : PE X e (rdE (jsO S) B M W .clean fe)) (hl : (ap.endLine == p.line) = true) (hs : starEach [e] X.env = [(false, eval e X.env)])
    (hb0 : attributeBase (.Name x np) f X.env (eval (.Name x np) X.env) = eval (.Name x np) X.env) (hb : attributeBase (.Attribute (.Name x np) f fp) "append" X.env (eval (.Attribute (.Name x np) f fp) X.env) = eval (.Attribute (.Name x np) f fp) X.env)
    (hfw : ((backTo p (starEach [e] X.env)).all (fun x => !x.1) && (backToKw p (keywordEach [] X.env)).all (fun x => x.1.isSome) && decide (([e] : List Expr).length + ([] : List Keyword).length + (if ([] : List Keyword).isEmpty then 0 else 1) < 30)) = true)
    (hsw : swapsWith (.Call (.Attribute (.Attribute (.Name x np) f fp) "append" ap) [e] [] p) none pos.line X.env = pure false) :
    PS X (.Expr (.Call (.Attribute (.Attribute (.Name x np) f fp) "append" ap) [e] [] p) pos) (rdS (jsO S) B M W (sOApp c f fe)) :=
  PS.imp (ps_expr (pe_bm PySem.F.plainAttrs_list PySem.F.slot_list_append PySem.F.type_list_append mt_append (pe_fld hx.pe hb0) (pa_cons he pa_nil hs) hb hfw hl hs rfl) hsw) fun En r H ⟨g, m, o, P, E, ok, ⟨h0, hc, b, xs0, hg, hh⟩, q, xo⟩ => by
    have jr : ObR S o g.F g.A H := ok.b.jr
    obtain ⟨dx, kvs, vs, e1, e2, e3, e4, e5⟩ := jr.own hg
    refine ⟨_, ok.self hM h0, o.ad, _, dx, kvs, _, rfl, e1, hK ▸ hc ▸ T.cls, hK ▸ hc ▸ T.no f hf, e2, .inl ⟨rfl, _, .of e3⟩, g, m, o, _, E, ok, hh, fun d o1 g1 v H1 h2 l1 ok1 w => ?_, xo⟩
    obtain ⟨xs, hg1, hlen, p⟩ := h2
    have jr1 : ObR S o1 g1.F g1.A H1 := ok1.b.jr
    obtain ⟨_, _, vs1, _, _, q3, q4, q5⟩ := jr1.own hg1
    refine ⟨b, vs1, v, rfl, rfl, q3, by rw [← q4.length]; exact Nat.lt_of_lt_of_le hlen line_ok, ?_⟩
    exact q _ _ _ p g1 r _ l1.f ⟨ok1.b.wrO q5 q3 (by intro x y z; cases z) (jr1.setL hg1 (q4.append (.cons (Rp.cv (S := jsO S) (S' := S) rfl rfl rfl w) .nil))), ok1.s⟩
theorem s_opop (hK : X.K = S.K) (hM : M 0 = false) (T : ClsT S c attrs) (hf : f ∈ attrs) (hx : MtN X 0 x) (hl : (ap.endLine == p.line) = true)
    (hb0 : attributeBase (.Name x np) f X.env (eval (.Name x np) X.env) = eval (.Name x np) X.env) (hb : attributeBase (.Attribute (.Name x np) f fp) "pop" X.env (eval (.Attribute (.Name x np) f fp) X.env) = eval (.Attribute (.Name x np) f fp) X.env)
    (hsw : swapsWith (.Call (.Attribute (.Attribute (.Name x np) f fp) "pop" ap) [] [] p) none pos.line X.env = pure false) :
    PS X (.Expr (.Call (.Attribute (.Attribute (.Name x np) f fp) "pop" ap) [] [] p) pos) (rdS (jsO S) B M W (sOPop c f)) :=
  PS.imp (ps_expr (pe_bm0 PySem.F.plainAttrs_list PySem.F.slot_list_pop PySem.F.type_list_pop mt_pop (pe_fld hx.pe hb0) hb hl) hsw) fun En r H ⟨g, m, o, P, E, ok, ⟨h0, hc, b, xs, y, hg, hy, p⟩, q, xo⟩ => by
    have jr : ObR S o g.F g.A H := ok.b.jr
    obtain ⟨dx, kvs, vs, e1, e2, e3, e4, e5⟩ := jr.own hg
    rw [List.getLast?_eq_getElem?] at hy
    obtain ⟨wy, hwy, ry⟩ := e4.get hy
    refine ⟨_, ok.self hM h0, o.ad, _, dx, kvs, _, rfl, e1, hK ▸ hc ▸ T.cls, hK ▸ hc ▸ T.no f hf, e2, .inl ⟨rfl, _, .of e3⟩, b, vs, wy, rfl, rfl, e3, by rw [← e4.length]; exact hwy, ?_⟩
    exact q _ _ _ p g r _ (Same.refl _) ⟨ok.b.wrO e5 e3 (by intro x y z; cases z) (jr.setL hg e4.dropLast), ok.s⟩
theorem s_oins (hK : X.K = S.K) (hM : M 0 = false) (T : ClsT S c attrs) (hf : f ∈ attrs) (hx : MtN X 0 x) (hk : PE X ek (rdE (jsO S) B M W .mix fk)) (hl : (ap.endLine == p.line) = true) (hl2 : (ap2.endLine == p2.line) = true)
    (hs : starEach [ek, .Call (.Attribute (.Attribute (.Name x np2) f fp2) "pop" ap2) [] [] p2] X.env = (false, eval ek X.env) :: starEach [.Call (.Attribute (.Attribute (.Name x np2) f fp2) "pop" ap2) [] [] p2] X.env)
    (hs2 : starEach [.Call (.Attribute (.Attribute (.Name x np2) f fp2) "pop" ap2) [] [] p2] X.env = [(false, eval (.Call (.Attribute (.Attribute (.Name x np2) f fp2) "pop" ap2) [] [] p2) X.env)])
    (hb0 : attributeBase (.Name x np) f X.env (eval (.Name x np) X.env) = eval (.Name x np) X.env) (hb : attributeBase (.Attribute (.Name x np) f fp) "insert" X.env (eval (.Attribute (.Name x np) f fp) X.env) = eval (.Attribute (.Name x np) f fp) X.env)
    (hb2 : attributeBase (.Name x np2) f X.env (eval (.Name x np2) X.env) = eval (.Name x np2) X.env) (hb3 : attributeBase (.Attribute (.Name x np2) f fp2) "pop" X.env (eval (.Attribute (.Name x np2) f fp2) X.env) = eval (.Attribute (.Name x np2) f fp2) X.env)
    (hfw : ((backTo p (starEach [ek, .Call (.Attribute (.Attribute (.Name x np2) f fp2) "pop" ap2) [] [] p2] X.env)).all (fun x => !x.1) && (backToKw p (keywordEach [] X.env)).all (fun x => x.1.isSome) && decide (([ek, .Call (.Attribute (.Attribute (.Name x np2) f fp2) "pop" ap2) [] [] p2] : List Expr).length + ([] : List Keyword).length + (if ([] : List Keyword).isEmpty then 0 else 1) < 30)) = true)
    (hpl : (backTo p (starEach [.Call (.Attribute (.Attribute (.Name x np2) f fp2) "pop" ap2) [] [] p2] X.env)).any (·.1) = false)
    (hsw : swapsWith (.Call (.Attribute (.Attribute (.Name x np) f fp) "insert" ap) [ek, .Call (.Attribute (.Attribute (.Name x np2) f fp2) "pop" ap2) [] [] p2] [] p) none pos.line X.env = pure false) :
    PS X (.Expr (.Call (.Attribute (.Attribute (.Name x np) f fp) "insert" ap) [ek, .Call (.Attribute (.Attribute (.Name x np2) f fp2) "pop" ap2) [] [] p2] [] p) pos) (rdS (jsO S) B M W (sOIns c f fk)) :=
  PS.imp (ps_expr (pe_bm PySem.F.plainAttrs_list PySem.F.slot_list_insert PySem.F.type_list_insert mt_insert (pe_fld hx.pe hb0) (pa_cons hk (pa_cons (pe_bm0 PySem.F.plainAttrs_list PySem.F.slot_list_pop PySem.F.type_list_pop mt_pop (pe_fld hx.pe hb2) hb3 hl2) pa_nil hs2) hs) hb hfw hl hs hpl) hsw)
  fun En r H ⟨g, m, o, P, E, ok, ⟨h0, hc, b, xs0, hg, hh⟩, q, xo⟩ => by
    have jr : ObR S o g.F g.A H := ok.b.jr
    obtain ⟨dx, kvs, vs, e1, e2, e3, e4, e5⟩ := jr.own hg
    refine ⟨_, ok.self hM h0, o.ad, _, dx, kvs, _, rfl, e1, hK ▸ hc ▸ T.cls, hK ▸ hc ▸ T.no f hf, e2, .inl ⟨rfl, _, .of e3⟩, g, m, o, _, E, ok, hh, fun d o1 g1 v H1 h2 l1 ok1 w => ?_, xo⟩
    obtain ⟨i, xs, y, rfl, ha1, hc1, hg1, hy, i0, i1, hlen, p⟩ := h2
    have jr1 : ObR S o1 g1.F g1.A H1 := ok1.b.jr
    obtain ⟨dx1, kvs1, vs1, q1, q2, q3, q4, q5⟩ := jr1.own hg1
    rw [List.getLast?_eq_getElem?] at hy
    obtain ⟨wy, hwy, ry⟩ := q4.get hy
    refine ⟨_, ok.self hM h0, o.ad, _, dx1, kvs1, _, rfl, ha1 ▸ q1, hK ▸ hc1 ▸ T.cls, hK ▸ hc1 ▸ T.no f hf, q2, .inl ⟨rfl, _, .of q3⟩, b, vs1, wy, rfl, rfl, q3, by rw [← q4.length]; exact hwy, ?_⟩
    have jr2 := jr1.setL hg1 (ys := xs.dropLast) q4.dropLast
    have hg2 : getF f (o1.setL f xs.dropLast).fs = some (.own b xs.dropLast) := by
      have : ∀ (fs : List (Str × Fld)), getF f fs = some (.own b xs) → getF f (Mp.setL f xs.dropLast fs) = some (.own b xs.dropLast) := fun fs => by
        induction fs with
        | nil => intro z; cases z
        | cons a r ih =>
          obtain ⟨k, fl⟩ := a
          intro z
          unfold getF at z
          unfold Mp.setL
          by_cases c : k = f
          · rw [if_pos c] at z; cases z; rw [if_pos c]; unfold getF; rw [if_pos c]
          · rw [if_neg c] at z; rw [if_neg c]; unfold getF; rw [if_neg c]; exact ih z
      exact this _ hg1
    have hln : xs.dropLast.length < LINE := by rw [List.length_dropLast]; omega
    refine ⟨b, vs1.dropLast, i, wy, rfl, by rw [int_of w], upd_same, ?_, i0, by have : LIM = 2 ^ 61 := rfl; omega, ?_⟩
    · rw [← q4.dropLast.length]; exact Nat.lt_of_lt_of_le hln line_ok
    · have okp : OkB (jsO S) B g1 (upd H1 b (.lst vs1.dropLast)) (o1.setL f xs.dropLast) := ok1.b.wrO q5 q3 (by intro x y z; cases z) jr2
      have jr3 := jr2.setL hg2 (ys := xs.dropLast.take i.toNat ++ [y] ++ xs.dropLast.drop i.toNat) ((((q4.dropLast).take i.toNat).append (.cons ry .nil)).append ((q4.dropLast).drop i.toNat))
      have e6 : (o1.setL f xs.dropLast).setL f (xs.dropLast.take i.toNat ++ [y] ++ xs.dropLast.drop i.toNat) = o1.setL f (xs.dropLast.take i.toNat ++ [y] ++ xs.dropLast.drop i.toNat) := by
        unfold Ob.setL
        congr 1
        have : ∀ (fs : List (Str × Fld)) (zs ws : List D), Mp.setL f zs (Mp.setL f ws fs) = Mp.setL f zs fs := fun fs zs ws => by
          induction fs with
          | nil => rfl
          | cons a r ih =>
            obtain ⟨k, fl⟩ := a
            by_cases c : k = f
            · simp only [Mp.setL, if_pos c]; cases fl <;> rfl
            · simp only [Mp.setL, if_neg c]; rw [ih]
        exact this _ _ _
      rw [e6] at jr3
      exact q _ _ _ p g1 r _ l1.f ⟨okp.wrO q5 upd_same (by intro x y z; cases z) jr3, ok1.s⟩
theorem s_osetIx (hK : X.K = S.K) (hM : M 0 = false) (T : ClsT S c attrs) (hf : f ∈ attrs) (hx : MtN X 0 x) (he : PE X e (rdE (jsO S) B M W .clean fe)) (hk : PE X ek (rdE (jsO S) B M W .mix fk)) (hb0 : attributeBase (.Name x np) f X.env (eval (.Name x np) X.env) = eval (.Name x np) X.env)
    (hs : swapsWithSole [.Subscript (.Attribute (.Name x np) f fp) ek p] e pos.line X.env = pure false) (hw : swappedStores [.Subscript (.Attribute (.Name x np) f fp) ek p] e X.env = pure none)
    (h1 : (assignEach [.Subscript (.Attribute (.Name x np) f fp) ek p] X.env).map (·.2) = [assign (.Subscript (.Attribute (.Name x np) f fp) ek p) X.env])
    (ha : ∀ v, assign (.Subscript (.Attribute (.Name x np) f fp) ek p) X.env v = (do
      let ov ← holding [v] (eval (.Attribute (.Name x np) f fp) X.env)
      let iv ← holding [v, ov] (eval ek X.env)
      standAt p
      holding [v, ov, iv] (setItem ov iv v)
      release [v, ov, iv] [])) :
    PS X (.Assign [.Subscript (.Attribute (.Name x np) f fp) ek p] e pos) (rdS (jsO S) B M W (sOSetIx c f fk fe)) :=
  PS.imp (ps_asg he (pg_sub (pe_fld hx.pe hb0) hk set_list ha) hs hw h1) fun En r H ⟨g, m, o, P, E, ok, hh, q, xo⟩ => by
    refine ⟨g, m, o, _, E, ok, hh, fun d o1 g1 v H1 h2 l1 ok1 w => ?_, xo⟩
    obtain ⟨h0, hc, b, xs0, hg, h2⟩ := h2
    have jr1 : ObR S o1 g1.F g1.A H1 := ok1.b.jr
    obtain ⟨dx, kvs, vs, e1, e2, e3, e4, e5⟩ := jr1.own hg
    refine ⟨_, ok1.self hM h0, o1.ad, _, dx, kvs, _, rfl, e1, hK ▸ hc ▸ T.cls, hK ▸ hc ▸ T.no f hf, e2, g1, m, o1, _, E, ok1, h2, fun kd o2 g2 v2 H2 h3 l2 ok2 w2 => ?_, xo.le l1.f⟩
    obtain ⟨xs, i, n, hg2, rfl, hi, p⟩ := h3
    have jr2 : ObR S o2 g2.F g2.A H2 := ok2.b.jr
    obtain ⟨_, _, vs2, _, _, q3, q4, q5⟩ := jr2.own hg2
    refine ⟨b, vs2, i, n, rfl, int_of w2, q3, by rw [← q4.length]; exact hi, ?_⟩
    exact q _ _ _ p g2 r _ (l1.trans l2).f ⟨ok2.b.wrO q5 q3 (by intro x y z; cases z) (jr2.setL hg2 (q4.set ((Rp.cv (S := jsO S) (S' := S) rfl rfl rfl w).mono l2.f) n)), ok2.s⟩
theorem s_oaugIx {op : Operator} {h : Int → Int → Int} (hφ : ∀ d e z, φ d e = some z → ∃ a b, d = .int a ∧ e = .int b ∧ z = .int (h a b)) (ho : PIp X op (ipI h)) (hK : X.K = S.K) (hM : M 0 = false) (T : ClsT S c attrs) (hf : f ∈ attrs) (hx : MtN X 0 x) (he : PE X e (rdE (jsO S) B M W .mix fe)) (hk : PE X ek (rdE (jsO S) B M W .mix fk))
    (hb0 : attributeBase (.Name x np) f X.env (eval (.Name x np) X.env) = eval (.Name x np) X.env) (ha : ∀ ov iv new, augStore ek ov iv new = (do holding [new, ov, iv] (setItem ov iv new); release [new, ov, iv] []; pure .next)) :
    PS X (.AugAssign (.Subscript (.Attribute (.Name x np) f fp) ek p) op e pos) (rdS (jsO S) B M W (sOAugIx φ c f fk fe)) :=
  PS.imp (ps_augS (pe_fld hx.pe hb0) hk get_list he ho set_list ha) fun En r H ⟨g, m, o, P, E, ok, ⟨h0, hc, b, xs0, hg, hh⟩, q, xo⟩ => by
    have jr : ObR S o g.F g.A H := ok.b.jr
    obtain ⟨dx, kvs, vs, e1, e2, e3, e4, e5⟩ := jr.own hg
    refine ⟨_, ok.self hM h0, o.ad, _, dx, kvs, _, rfl, e1, hK ▸ hc ▸ T.cls, hK ▸ hc ▸ T.no f hf, e2, g, m, o, _, E, ok, hh, fun kd o1 g1 v1 H1 h2 l1 ok1 w1 => ?_, xo⟩
    obtain ⟨xs, i, x0, hg1, rfl, hi, h2⟩ := h2
    have jr1 : ObR S o1 g1.F g1.A H1 := ok1.b.jr
    obtain ⟨_, _, vs1, _, _, q3, q4, q5⟩ := jr1.own hg1
    obtain ⟨vx, hvx, rx⟩ := q4.atI hi
    refine ⟨b, vs1, i, vx, rfl, int_of w1, .of q3, hvx, g1, m, o1, _, E, ok1, h2, fun y o2 g2 v2 H2 h3 l2 ok2 w2 => ?_, xo.le l1.f⟩
    obtain ⟨xs2, n, z, hg2, hz, hn, p⟩ := h3
    obtain ⟨a', b', rfl, rfl, rfl⟩ := hφ _ _ _ hz
    have jr2 : ObR S o2 g2.F g2.A H2 := ok2.b.jr
    obtain ⟨_, _, vs2, _, _, t3, t4, t5⟩ := jr2.own hg2
    refine ⟨a', b', int_of rx, int_of w2, b, vs2, i, n, rfl, int_of w1, t3, by rw [← t4.length]; exact hn, ?_⟩
    exact q _ _ _ p g2 r _ (l1.trans l2).f ⟨ok2.b.wrO t5 t3 (by intro x y z; cases z) (jr2.setL hg2 (t4.set (.int _) n)), ok2.s⟩
end
end Mp

/-! O5: the statements on objects, written short; dicts with int and text keys. -/
namespace Mp
open PySem PySem.Spec L2
open PyProof.Rows hiding St
variable {J J' : Type}
section
variable {S : Js J} {B : Bs} {M : Nat → Bool} {W : WX} {X : Cx} {e ek : Expr} {pos p np p2 ap ap2 np2 p3 fp fp2 : Pos} {fe fk : Ev Ob} {c : Nat} {f x : Str} {attrs : List Str}
theorem zOSet (hK : X.K = S.K) (T : ClsT S c attrs) (hf : f ∈ attrs) (he : PE X e (rdE (jsO S) B M W .clean fe)) (hx : MtN X 0 x := by exact mtN _) (hM : M 0 = false := by rfl) (hs : swapsWith e (some (.Attribute (.Name x np) f p)) pos.line X.env = pure false := by rfl) :
    PS X (.Assign [.Attribute (.Name x np) f p] e pos) (rdS (jsO S) B M W (sOSet c f fe)) := s_oset hK hM T hf hx he hs
theorem zOSetO (hK : X.K = S.K) (T : ClsT S c attrs) (hf : f ∈ attrs) (he : PE X e (rdE (jsO S) B M W .fresh fe)) (hx : MtN X 0 x := by exact mtN _) (hM : M 0 = false := by rfl) (hs : swapsWith e (some (.Attribute (.Name x np) f p)) pos.line X.env = pure false := by rfl) :
    PS X (.Assign [.Attribute (.Name x np) f p] e pos) (rdS (jsO S) B M W (sOSetO c f fe)) := s_osetO hK hM T hf hx he hs
theorem subI_cases : ∀ d e z, subI d e = some z → ∃ a b, d = .int a ∧ e = .int b ∧ z = .int (a - b) := fun d e z h => by
  unfold subI at h; split at h
  · cases h; exact ⟨_, _, rfl, rfl, rfl⟩
  · cases h
theorem addI_cases : ∀ d e z, addI d e = some z → ∃ a b, d = .int a ∧ e = .int b ∧ z = .int (a + b) := fun d e z h => by
  unfold addI at h; split at h
  · cases h; exact ⟨_, _, rfl, rfl, rfl⟩
  · cases h
theorem zOSub (hK : X.K = S.K) (T : ClsT S c attrs) (hf : f ∈ attrs) (he : PE X e (rdE (jsO S) B M W .mix fe)) (hx : MtN X 0 x := by exact mtN _) (hM : M 0 = false := by rfl) :
    PS X (.AugAssign (.Attribute (.Name x np) f p) .Sub e pos) (rdS (jsO S) B M W (sOAug subI c f fe)) := s_oaug (h := fun a b => a - b) subI_cases in_sub hK hM T hf hx he
theorem zOAdd (hK : X.K = S.K) (T : ClsT S c attrs) (hf : f ∈ attrs) (he : PE X e (rdE (jsO S) B M W .mix fe)) (hx : MtN X 0 x := by exact mtN _) (hM : M 0 = false := by rfl) :
    PS X (.AugAssign (.Attribute (.Name x np) f p) .Add e pos) (rdS (jsO S) B M W (sOAug addI c f fe)) := s_oaug (h := fun a b => a + b) addI_cases in_add hK hM T hf hx he
theorem zOApp (hK : X.K = S.K) (T : ClsT S c attrs) (hf : f ∈ attrs) (he : PE X e (rdE (jsO S) B M W .clean fe)) (hx : MtN X 0 x := by exact mtN _) (hM : M 0 = false := by rfl) (hl : (ap.endLine == p.line) = true := by rfl) (hs : starEach [e] X.env = [(false, eval e X.env)] := by rfl)
    (hb0 : attributeBase (.Name x np) f X.env (eval (.Name x np) X.env) = eval (.Name x np) X.env := by rfl) (hb : attributeBase (.Attribute (.Name x np) f fp) "append" X.env (eval (.Attribute (.Name x np) f fp) X.env) = eval (.Attribute (.Name x np) f fp) X.env := by rfl)
    (hfw : ((backTo p (starEach [e] X.env)).all (fun x => !x.1) && (backToKw p (keywordEach [] X.env)).all (fun x => x.1.isSome) && decide (([e] : List Expr).length + ([] : List Keyword).length + (if ([] : List Keyword).isEmpty then 0 else 1) < 30)) = true := by rfl)
    (hsw : swapsWith (.Call (.Attribute (.Attribute (.Name x np) f fp) "append" ap) [e] [] p) none pos.line X.env = pure false := by rfl) :
    PS X (.Expr (.Call (.Attribute (.Attribute (.Name x np) f fp) "append" ap) [e] [] p) pos) (rdS (jsO S) B M W (sOApp c f fe)) := s_oapp hK hM T hf hx he hl hs hb0 hb hfw hsw
theorem zOPop (hK : X.K = S.K) (T : ClsT S c attrs) (hf : f ∈ attrs) (hx : MtN X 0 x := by exact mtN _) (hM : M 0 = false := by rfl) (hl : (ap.endLine == p.line) = true := by rfl)
    (hb0 : attributeBase (.Name x np) f X.env (eval (.Name x np) X.env) = eval (.Name x np) X.env := by rfl) (hb : attributeBase (.Attribute (.Name x np) f fp) "pop" X.env (eval (.Attribute (.Name x np) f fp) X.env) = eval (.Attribute (.Name x np) f fp) X.env := by rfl)
    (hsw : swapsWith (.Call (.Attribute (.Attribute (.Name x np) f fp) "pop" ap) [] [] p) none pos.line X.env = pure false := by rfl) :
    PS X (.Expr (.Call (.Attribute (.Attribute (.Name x np) f fp) "pop" ap) [] [] p) pos) (rdS (jsO S) B M W (sOPop c f)) := s_opop hK hM T hf hx hl hb0 hb hsw
theorem zOIns (hK : X.K = S.K) (T : ClsT S c attrs) (hf : f ∈ attrs) (hk : PE X ek (rdE (jsO S) B M W .mix fk)) (hx : MtN X 0 x := by exact mtN _) (hM : M 0 = false := by rfl) (hl : (ap.endLine == p.line) = true := by rfl) (hl2 : (ap2.endLine == p2.line) = true := by rfl)
    (hs : starEach [ek, .Call (.Attribute (.Attribute (.Name x np2) f fp2) "pop" ap2) [] [] p2] X.env = (false, eval ek X.env) :: starEach [.Call (.Attribute (.Attribute (.Name x np2) f fp2) "pop" ap2) [] [] p2] X.env := by rfl)
    (hs2 : starEach [.Call (.Attribute (.Attribute (.Name x np2) f fp2) "pop" ap2) [] [] p2] X.env = [(false, eval (.Call (.Attribute (.Attribute (.Name x np2) f fp2) "pop" ap2) [] [] p2) X.env)] := by rfl)
    (hb0 : attributeBase (.Name x np) f X.env (eval (.Name x np) X.env) = eval (.Name x np) X.env := by rfl) (hb : attributeBase (.Attribute (.Name x np) f fp) "insert" X.env (eval (.Attribute (.Name x np) f fp) X.env) = eval (.Attribute (.Name x np) f fp) X.env := by rfl)
    (hb2 : attributeBase (.Name x np2) f X.env (eval (.Name x np2) X.env) = eval (.Name x np2) X.env := by rfl) (hb3 : attributeBase (.Attribute (.Name x np2) f fp2) "pop" X.env (eval (.Attribute (.Name x np2) f fp2) X.env) = eval (.Attribute (.Name x np2) f fp2) X.env := by rfl)
    (hfw : ((backTo p (starEach [ek, .Call (.Attribute (.Attribute (.Name x np2) f fp2) "pop" ap2) [] [] p2] X.env)).all (fun x => !x.1) && (backToKw p (keywordEach [] X.env)).all (fun x => x.1.isSome) && decide (([ek, .Call (.Attribute (.Attribute (.Name x np2) f fp2) "pop" ap2) [] [] p2] : List Expr).length + ([] : List Keyword).length + (if ([] : List Keyword).isEmpty then 0 else 1) < 30)) = true := by rfl)
    (hpl : (backTo p (starEach [.Call (.Attribute (.Attribute (.Name x np2) f fp2) "pop" ap2) [] [] p2] X.env)).any (·.1) = false := by rfl)
    (hsw : swapsWith (.Call (.Attribute (.Attribute (.Name x np) f fp) "insert" ap) [ek, .Call (.Attribute (.Attribute (.Name x np2) f fp2) "pop" ap2) [] [] p2] [] p) none pos.line X.env = pure false := by rfl) :
    PS X (.Expr (.Call (.Attribute (.Attribute (.Name x np) f fp) "insert" ap) [ek, .Call (.Attribute (.Attribute (.Name x np2) f fp2) "pop" ap2) [] [] p2] [] p) pos) (rdS (jsO S) B M W (sOIns c f fk)) := s_oins hK hM T hf hx hk hl hl2 hs hs2 hb0 hb hb2 hb3 hfw hpl hsw
theorem zOSetIx (hK : X.K = S.K) (T : ClsT S c attrs) (hf : f ∈ attrs) (he : PE X e (rdE (jsO S) B M W .clean fe)) (hk : PE X ek (rdE (jsO S) B M W .mix fk)) (hx : MtN X 0 x := by exact mtN _) (hM : M 0 = false := by rfl) (hb0 : attributeBase (.Name x np) f X.env (eval (.Name x np) X.env) = eval (.Name x np) X.env := by rfl)
    (hs : swapsWithSole [.Subscript (.Attribute (.Name x np) f fp) ek p] e pos.line X.env = pure false := by rfl) (hw : swappedStores [.Subscript (.Attribute (.Name x np) f fp) ek p] e X.env = pure none := by rfl)
    (h1 : (assignEach [.Subscript (.Attribute (.Name x np) f fp) ek p] X.env).map (·.2) = [assign (.Subscript (.Attribute (.Name x np) f fp) ek p) X.env] := by rfl)
    (ha : ∀ v, assign (.Subscript (.Attribute (.Name x np) f fp) ek p) X.env v = (do
      let ov ← holding [v] (eval (.Attribute (.Name x np) f fp) X.env)
      let iv ← holding [v, ov] (eval ek X.env)
      standAt p
      holding [v, ov, iv] (setItem ov iv v)
      release [v, ov, iv] []) := by intro _; rfl) :
    PS X (.Assign [.Subscript (.Attribute (.Name x np) f fp) ek p] e pos) (rdS (jsO S) B M W (sOSetIx c f fk fe)) := s_osetIx hK hM T hf hx he hk hb0 hs hw h1 ha
theorem zOSubIx (hK : X.K = S.K) (T : ClsT S c attrs) (hf : f ∈ attrs) (he : PE X e (rdE (jsO S) B M W .mix fe)) (hk : PE X ek (rdE (jsO S) B M W .mix fk)) (hx : MtN X 0 x := by exact mtN _) (hM : M 0 = false := by rfl)
    (hb0 : attributeBase (.Name x np) f X.env (eval (.Name x np) X.env) = eval (.Name x np) X.env := by rfl) (ha : ∀ ov iv new, augStore ek ov iv new = (do holding [new, ov, iv] (setItem ov iv new); release [new, ov, iv] []; pure .next) := by intros; rfl) :
    PS X (.AugAssign (.Subscript (.Attribute (.Name x np) f fp) ek p) .Sub e pos) (rdS (jsO S) B M W (sOAugIx subI c f fk fe)) := s_oaugIx (h := fun a b => a - b) subI_cases ip_sub hK hM T hf hx he hk hb0 ha
end
section
variable {S : Js J} {B : Bs} {M : Nat → Bool} {W : WX} {X : Cx} {e ek a b : Expr} {pos p np : Pos} {fe fk fa fb : Ev J} {x : Str} {i : Nat} {ci : Bool}
theorem zSub (i : Nat) (hN : X.N.Nodup) (he : PE X e (rdE S B M W .mix fe)) (hM : M i = false := by rfl) (hi : X.N[i]? = some x := by rfl) (hx : Loc X.env.scope x := by first | exact Or.inl rfl | exact Or.inr rfl) (hf : X.fn x = true ∨ X.env.scope.names.lookup x = some .local := by first | exact .inl rfl | exact .inr rfl) :
    PS X (.AugAssign (.Name x p) .Sub e pos) (rdS S B M W (sAug subI i fe)) := s_aug (h := fun a b => a - b) subI_cases ip_sub hM hN hi hx he hf
/-! ### dicts -/
def keyD : D → Option Key
  | .int i => some (.inl i)
  | .str x => some (.inr x)
  | _ => none
def valD {κ : Type} [DecidableEq κ] (kds : List (κ × D)) (k : κ) : Option D := (kds.find? fun kv => decide (kv.1 = k)).map (·.2)
def putD {κ : Type} [DecidableEq κ] (kds : List (κ × D)) (k : κ) (d : D) : List (κ × D) :=
  if (kds.any fun kv => decide (kv.1 = k)) = true then kds.map (fun kv => if kv.1 = k then (kv.1, d) else kv) else kds ++ [(k, d)]
def dgetD : D → D → Option D
  | .dct kds, k => (keyD k).bind (valD kds)
  | _, _ => none
def dinD : D → D → Option D
  | k, .dct kds => (keyD k).map fun k => .bl (valD kds k).isSome
  | _, _ => none
def dninD : D → D → Option D
  | k, .dct kds => (keyD k).map fun k => .bl (!(valD kds k).isSome)
  | _, _ => none
theorem key_of {F : Hp} {d : D} {v : V} {k : Key} (h : Rp S F d v) (e : keyD d = some k) : v = kV k := by
  unfold keyD at e; split at e
  · cases e; rw [int_of h]; rfl
  · cases e; rw [str_of h]; rfl
  · cases e
theorem dct_of {F : Hp} {kds : List (Key × D)} {v : V} (h : Rp S F (.dct kds) v) : ∃ a kvs, v = .ref a ∧ F a = some (.dK kvs) ∧ kds.map Prod.fst = kvs.map Prod.fst ∧ RpL S F (kds.map Prod.snd) (kvs.map Prod.snd) := by
  cases h; exact ⟨_, _, rfl, by assumption, by assumption, by assumption⟩
theorem valD_of {κ : Type} [DecidableEq κ] {F : Hp} {k : κ} : ∀ {kds : List (κ × D)} {kvs : List (κ × V)}, kds.map Prod.fst = kvs.map Prod.fst → RpL S F (kds.map Prod.snd) (kvs.map Prod.snd) → (valD kds k = none ∧ valV kvs k = none) ∨ ∃ d v, valD kds k = some d ∧ valV kvs k = some v ∧ Rp S F d v
  | [], [], _, _ => .inl ⟨rfl, rfl⟩
  | (g, x) :: r, (g', y) :: r', h1, h2 => by
    simp only [List.map_cons, List.cons.injEq] at h1
    obtain ⟨rfl, h1⟩ := h1
    cases h2 with
    | cons r1 r2 =>
      by_cases c : g = k
      · exact .inr ⟨x, y, by simp [valD, List.find?_cons, c], valV_pos c, r1⟩
      · have e1 : valD ((g, x) :: r) k = valD r k := by simp [valD, List.find?_cons, c]
        rw [e1, valV_neg (p := (g, y)) c]
        exact valD_of h1 r2
  | [], _ :: _, h, _ => by simp at h
  | _ :: _, [], h, _ => by simp at h
theorem put_of {κ : Type} [DecidableEq κ] {F : Hp} {k : κ} {d : D} {v : V} {kds : List (κ × D)} {kvs : List (κ × V)} (h1 : kds.map Prod.fst = kvs.map Prod.fst) (h2 : RpL S F (kds.map Prod.snd) (kvs.map Prod.snd)) (r : Rp S F d v) :
    (putD kds k d).map Prod.fst = (putK kvs k v).map Prod.fst ∧ RpL S F ((putD kds k d).map Prod.snd) ((putK kvs k v).map Prod.snd) := by
  have ha : ∀ {kds : List (κ × D)} {kvs : List (κ × V)}, kds.map Prod.fst = kvs.map Prod.fst → (kds.any fun kv => decide (kv.1 = k)) = (kvs.any fun kv => decide (kv.1 = k)) := fun {kds kvs} h => by
    have e1 : (kds.any fun kv => decide (kv.1 = k)) = (kds.map Prod.fst).any (fun z => decide (z = k)) := by rw [List.any_map]; rfl
    have e2 : (kvs.any fun kv => decide (kv.1 = k)) = (kvs.map Prod.fst).any (fun z => decide (z = k)) := by rw [List.any_map]; rfl
    rw [e1, e2, h]
  unfold putD putK
  rw [ha h1]
  split
  · rename_i hh
    clear hh ha
    induction kds generalizing kvs with
    | nil =>
      cases kvs with
      | nil => exact ⟨rfl, .nil⟩
      | cons a r => simp at h1
    | cons a t ih =>
      cases kvs with
      | nil => simp at h1
      | cons b t' =>
        simp only [List.map_cons, List.cons.injEq] at h1
        cases h2 with
        | cons r1 r2 =>
          obtain ⟨i1, i2⟩ := ih h1.2 r2
          simp only [List.map_cons]
          by_cases c : a.1 = k
          · rw [if_pos c, if_pos (h1.1 ▸ c)]
            exact ⟨by rw [i1, h1.1], .cons r i2⟩
          · rw [if_neg c, if_neg (h1.1 ▸ c)]
            exact ⟨by rw [i1, h1.1], .cons r1 i2⟩
  · simp only [List.map_append, List.map_cons, List.map_nil]
    exact ⟨by rw [h1], h2.append (.cons r .nil)⟩
def rDG : R2 := fun x y H Q => ∃ a v, x = .ref a ∧ DGet H a y (some v) ∧ Q v H
theorem s_dget : OpS S rDG dgetD ci (ofB ci) := by
  intro B g H j d1 d2 d v1 v2 Q ok h1 h2 e q
  unfold dgetD at e
  split at e
  · rename_i kds
    cases hk : keyD d2 with
    | none => rw [hk] at e; cases e
    | some k =>
      rw [hk] at e
      have e : valD kds k = some d := e
      obtain ⟨a, kvs, rfl, ha, l, t⟩ := dct_of h1
      rcases valD_of (k := k) l t with ⟨z, _⟩ | ⟨d', v, z1, z2, r⟩
      · rw [z] at e; cases e
      · rw [z1] at e; cases e
        rw [key_of h2 hk]
        exact ⟨a, v, rfl, by rw [← z2]; exact DGet.k (ok.sub ci _ _ ha), ansP (B := B) ok q r⟩
  · cases e
theorem dgC (hu : X.A.units + 64 < cLine) (ha : PE X a (rdE S B M W .clean fa)) (hb : PE X b (rdE S B M W .clean fb)) (hs : NoSl b := by intro _ _; rfl) : PE X (.Subscript a b pos) (rdE S B M W .clean (eOp dgetD fa fb)) :=
  PE.imp (pe_dget (by omega) ha hb hs) fun r H Q h => by
    obtain ⟨g, m, j, P, E, ok, hf, q, xo⟩ := tOp_rd (ci := true) (co := .clean) s_dget h
    exact ⟨g, m, j, P, E, ok, hf, q, xo⟩
theorem own_dct {g : Gh} {kds : List (Key × D)} {a : Addr} (h : Own S g (.dct kds) a) : g.F a = none ∧ ∃ kvs, g.G a = some (.dK kvs) ∧ kds.map Prod.fst = kvs.map Prod.fst ∧ RpL S g.F (kds.map Prod.snd) (kvs.map Prod.snd) := by
  obtain ⟨n, ⟨ds, vs, e, _⟩ | ⟨kds, kvs, e, e2, e3, t⟩ | ⟨kds, kvs, e, _⟩⟩ := h
  · cases e
  · cases e; exact ⟨n, kvs, e2, e3, t⟩
  · cases e
/-- of an owned dict -/
theorem dgO {i : Nat} (hu : X.A.units + 64 < cLine) (hb : PE X b (rdE S B M W .mix fb)) (hx : MtN X i x := by exact mtN _) (hM : M i = true := by rfl) (hs : NoSl b := by intro _ _; rfl) : PE X (.Subscript (.Name x np) b pos) (rdE S B M W .clean (eOp dgetD (eVar i) fb)) :=
  PE.imp (pe_dget (by omega) hx.pe hb hs) fun R H Q ⟨g, m, j, P, E, ok, ⟨d0, h0, hf⟩, q, xo⟩ => by
    obtain ⟨a, hr, ho⟩ := ok.s.ow i _ h0 hM
    refine ⟨_, hr, g, m, j, _, E, ok, hf, fun y j2 g1 v H1 hh l1 ok1 w => ?_, xo⟩
    obtain ⟨z, h3, p⟩ := hh
    unfold dgetD at h3
    split at h3
    · rename_i kds
      cases hk : keyD y with
      | none => rw [hk] at h3; cases h3
      | some k =>
        rw [hk] at h3
        have h3 : valD kds k = some z := h3
        obtain ⟨_, kvs, hG, l, t⟩ := own_dct (ho.le l1)
        rcases valD_of (k := k) l t with ⟨q1, _⟩ | ⟨d', v', z1, z2, r⟩
        · rw [q1] at h3; cases h3
        · rw [z1] at h3; cases h3
          rw [key_of w hk]
          exact ⟨a, v', rfl, by rw [← z2]; exact DGet.k (ok1.b.gh _ _ hG), q _ _ g1 v' H1 p l1 ok1 r⟩
    · cases h3
def rDI : R2 := fun y x H Q => ∃ a o, x = .ref a ∧ DGet H a y o ∧ Q (.bl o.isSome) H
def rDNI : R2 := fun y x H Q => ∃ a o, x = .ref a ∧ DGet H a y o ∧ Q (.bl (!o.isSome)) H
theorem op_din (hu : X.A.units + 64 < cLine) : OpR X (compareOp .In) rDI := by
  intro pins s σ H x y v u Q I rx ry h
  obtain ⟨a, o, rfl, g, q⟩ := h
  obtain rfl : u = Value.ref a := ry
  exact d_in (by omega) I g rx fun s3 I3 => ⟨.bl o.isSome, H, I3, rfl, q⟩
theorem op_dnin (hu : X.A.units + 64 < cLine) : OpR X (compareOp .NotIn) rDNI := by
  intro pins s σ H x y v u Q I rx ry h
  obtain ⟨a, o, rfl, g, q⟩ := h
  obtain rfl : u = Value.ref a := ry
  exact d_notIn (by omega) I g rx fun s3 I3 => ⟨.bl (!o.isSome), H, I3, rfl, q⟩
theorem s_din : OpS S rDI dinD ci .clean := by
  intro B g H j d1 d2 d v1 v2 Q ok h1 h2 e q
  unfold dinD at e
  split at e
  · rename_i kds
    cases hk : keyD d1 with
    | none => rw [hk] at e; cases e
    | some k =>
      rw [hk] at e
      cases e
      obtain ⟨a, kvs, rfl, ha, l, t⟩ := dct_of h2
      rw [key_of h1 hk]
      refine ⟨a, _, rfl, DGet.k (ok.sub ci _ _ ha), ?_⟩
      have : (valV kvs k).isSome = (valD kds k).isSome := by
        rcases valD_of (k := k) l t with ⟨z1, z2⟩ | ⟨d', v', z1, z2, r⟩ <;> simp [z1, z2]
      rw [this]
      exact ans (B := B) ok q fun _ => .bl _
  · cases e
theorem s_dnin : OpS S rDNI dninD ci .clean := by
  intro B g H j d1 d2 d v1 v2 Q ok h1 h2 e q
  unfold dninD at e
  split at e
  · rename_i kds
    cases hk : keyD d1 with
    | none => rw [hk] at e; cases e
    | some k =>
      rw [hk] at e
      cases e
      obtain ⟨a, kvs, rfl, ha, l, t⟩ := dct_of h2
      rw [key_of h1 hk]
      refine ⟨a, _, rfl, DGet.k (ok.sub ci _ _ ha), ?_⟩
      have : (valV kvs k).isSome = (valD kds k).isSome := by
        rcases valD_of (k := k) l t with ⟨z1, z2⟩ | ⟨d', v', z1, z2, r⟩ <;> simp [z1, z2]
      rw [this]
      exact ans (B := B) ok q fun _ => .bl _
  · cases e
/-- d[k] = e, d an owned dict -/
def sSetK (i : Nat) (fk fe : Ev J) (m : Sd) (j : J) (P : Fl → Sd → J → Prop) (E : XP J) : Prop := ∃ kds, m[i]? = some (some (.dct kds)) ∧
  fe m j (fun d j1 => fk m j1 (fun kd j2 => ∃ k, keyD kd = some k ∧ kds.length < LINE ∧ P .next (m.set i (some (.dct (putD kds k d)))) j2) E) E
instance [h1 : MoE fk] [h2 : MoE fe] : MoS (sSetK i fk fe) := ⟨fun ⟨k, e, h⟩ q x => ⟨k, e, h2.mo h (fun _ _ h => h1.mo h (fun _ _ ⟨k, a, b, p⟩ => ⟨k, a, b, q _ _ _ p⟩) x) x⟩⟩
theorem zSetK (i : Nat) (hu : X.A.units + 64 < cLine) (he : PE X e (rdE S B M W .clean fe)) (hk : PE X ek (rdE S B M W .mix fk)) (hx : MtN X i x := by exact mtN _) (hM : M i = true := by rfl) (hs : swapsWith e (some (.Subscript (.Name x np) ek p)) pos.line X.env = pure false := by rfl) :
    PS X (.Assign [.Subscript (.Name x np) ek p] e pos) (rdS S B M W (sSetK i fk fe)) :=
  PS.imp (ps_dput (by omega) hx.pe hk he hs) fun En r H ⟨g, m, j, P, E, ok, ⟨kds, hm, hf⟩, q, xo⟩ => by
    obtain ⟨a, hr, ho⟩ := ok.s.ow i _ hm hM
    refine ⟨g, m, j, _, E, ok, hf, fun d j1 g1 v H1 h1 l1 ok1 w => ⟨_, hr, g1, m, _, _, E, ok1, h1, fun kd j2 g2 v2 H2 hh l2 ok2 w2 => ?_, xo.le l1.f⟩, xo⟩
    obtain ⟨k, hk, hl, p⟩ := hh
    obtain ⟨hF, kvs, hG, l, t⟩ := own_dct (ho.le (l1.trans l2))
    have hlen : kds.length = kvs.length := by have := congrArg List.length l; simpa using this
    rw [key_of w2 hk]
    refine ⟨a, _, rfl, DPut.k (ok2.b.gh _ _ hG) (by rw [← hlen]; exact Nat.lt_of_lt_of_le hl line_ok), ?_⟩
    obtain ⟨p1, p2⟩ := put_of (k := k) l t (Rp.mono l2.f w)
    exact q _ _ _ p (g2.put a (.dK (putK kvs k v))) r _ (l1.trans l2).f ⟨ok2.b.put hF hG (by intro x y z; cases z), ok2.s.put hM hm hr ⟨hF, .inr (.inl ⟨_, _, rfl, upd_same, p1, p2⟩)⟩⟩
end
/-! ### y = [..], the object lent -/
theorem ps_ex {X : Cx} {st : Stmt} {α : Type} {t : α → TS} (h : ∀ x, PS X st (t x)) : PS X st (fun D σ H => ∃ x, t x D σ H) := ⟨fun pins s σ H D I ⟨x, q⟩ => (h x).run pins s σ H D I q⟩
section
variable {S : Js J} {B : Bs} {M : Nat → Bool} {W : WX} {X : Cx} {elt tg iter : Expr} {ifs : List Expr} {pos py spos : Pos} {y : Str} {scope : Scope} {fi : Iv Unit} {γ : Gv} {ft : Tv Unit} {fe : Ev Unit} {ks : List Nat} {cc w : Bool}
theorem setLcL (i : Nat) (own : List (Str × Nat)) (hN : X.N.Nodup) (ok : BlkOk X.N X.env.scope scope own) (hi : ∀ B, PI X tg iter (rdI (js0 S) B M W0 cc w fi))
    (hg : ∀ (B : Bs) (s : Shared) (H : Hp) (C : Addr) (cl : List (Str × Addr)) (fp : List Addr), PG (X.blk s H scope (compEnvC scope cl C X.env) fp) tg (rdG (js0 S) B M w ks γ)) (ht : ∀ (B : Bs) (s : Shared) (H : Hp) (C : Addr) (cl : List (Str × Addr)) (fp : List Addr), PTs (X.blk s H scope (compEnvC scope cl C X.env) fp) ifs (rdT (js0 S) B M W0 ft))
    (he : ∀ (B : Bs) (s : Shared) (H : Hp) (C : Addr) (cl : List (Str × Addr)) (fp : List Addr), PE (X.blk s H scope (compEnvC scope cl C X.env) fp) elt (rdE (js0 S) B M W0 .clean fe)) (hks : ∀ k ∈ ks, k ∈ own.map (·.2) := by decide) (hM : M i = false := by rfl) (hM0 : M 0 = false := by rfl) (hy : X.N[i]? = some y := by rfl) (hyl : X.env.scope.names.lookup y = some .local := by rfl)
    (hsw : swapsWith (.ListComp elt [⟨tg, iter, ifs, 0⟩] scope pos) (some (.Name y py)) spos.line X.env = pure true := by rfl) (hc : X.calm = true := by rfl) (hs : ∀ x, foldedSetIterable iter X.env x = pure x := by intro _; rfl) :
    PS X (.Assign [.Name y py] (.ListComp elt [⟨tg, iter, ifs, 0⟩] scope pos) spos) (rdS (jsO S) B M W (sSet i (eLendF (eComp (own.map (·.2)) fi γ ft fe)))) :=
  PS.imp (ps_ex fun B => ps_setLc hc hN hy hyl hsw (hi B) ok (hg B) (ht B) (he B) hs) fun E r H ⟨g, m, o, P, Ep, ok', ⟨h0, hf⟩, q, xo⟩ => by
    obtain ⟨g2, B2, ok2, out⟩ := lend ok' h0 hM0
    refine ⟨B2, lc_rd hks ⟨g2, _, (), _, _, ok2, hf, fun d _ g3 v H3 ⟨hd, p⟩ l3 ok3 w => ?_, XOut.no⟩⟩
    obtain ⟨g1, l1, ok1, _, c1⟩ := out g3 H3 l3 ok3.b
    obtain ⟨a, rfl, n, ow⟩ := c1 d v w hd
    exact q _ _ _ p (g1.ice a) _ H3 (l1.ice n ow.1).f ⟨ok1.b.ice ow.1, (ok'.s.ice l1 n ow.1).set_fr hM ow.ice⟩
end
/-! ### the facts of a method, of an __init__ -/
def clsBody (s : Stmt) : List Stmt := match s with | .ClassDef _ _ _ b _ _ _ _ _ _ _ => b | _ => []
structure MF (K : PySem.W.Frag) (cl : Nat → Addr) (c : Nat) (nm qual : Str) (st : Stmt) (ps : List Str) : Prop where
  ex : ∃ f fd, L2.Fun K nm qual st f fd ∧ Meth K (cl c) nm f ∧ Binds K fd ps []
structure MI (K : PySem.W.Frag) (cl : Nat → Addr) (c : Nat) (nm qual : Str) (st : Stmt) (ps : List Str) : Prop where
  ex : ∃ f fd, L2.Fun K nm qual st f fd ∧ Mk K (cl c) f ∧ Binds K fd ps []
theorem ClsT.o {S : Js J} {c : Nat} {attrs : List Str} (T : ClsT S c attrs) : ClsT (jsO S) c attrs := ⟨T.cls, T.no⟩
theorem ClsT.z {S : Js J} {c : Nat} {attrs : List Str} (T : ClsT S c attrs) : ClsT (js0 S) c attrs := ⟨T.cls, T.no⟩
/-! ### texts that are written: equal or not -/
theorem ofString_inj {a b : String} : (Str.ofString a = Str.ofString b) ↔ a = b := by
  refine ⟨fun h => ?_, fun h => by rw [h]⟩
  rw [Str.ofString_eq_toList, Str.ofString_eq_toList] at h
  have h1 : a.toList.map Char.toNat = b.toList.map Char.toNat := by
    have := congrArg Str.cps h
    simpa using this
  have h2 : a.toList = b.toList := by
    have inj : ∀ {l l' : List Char}, l.map Char.toNat = l'.map Char.toNat → l = l' := fun {l} => by
      induction l with
      | nil => intro l' h; cases l' with
        | nil => rfl
        | cons => simp at h
      | cons c r ih =>
        intro l' h
        cases l' with
        | nil => simp at h
        | cons c' r' =>
          simp only [List.map_cons, List.cons.injEq] at h
          rw [ih h.2, Char.ext (UInt32.toNat_inj.mp h.1)]
    exact inj h1
  exact String.toList_inj.mp h2
end Mp

/-! O6: closures over objects, step by step. -/
namespace Mp
open PySem L2
variable {J : Type}
/-- an attribute of a frozen instance -/
def atP (c : Nat) (f : Str) (x : D) (P : D → J → Prop) (j : J) : Prop := ∃ kds d, x = .ins c kds ∧ getK f kds = some d ∧ P d j
/-- a method's name is no attribute -/
def noP (c : Nat) (f : Str) (x : D) : Prop := ∃ kds, x = .ins c kds ∧ getK f kds = none
section
variable {f fa fb fe fk fo : Ev J} {fr : Av J} {m : Sd} {j : J} {P : D → J → Prop} {PS : Fl → Sd → J → Prop} {E : XP J} {c i : Nat} {nm : Str}
@[simp ↓] theorem a_at : eAt c nm fo m j P E = fo m j (fun x j1 => atP c nm x P j1) E := rfl
theorem mt1_eq {φ : Fv J} : eMt1 c nm φ fo fr m j P E = fo m j (fun x j1 => noP c nm x ∧ fr m j1 (fun xs j2 => φ (x :: xs) j2 P (fun e j' => E e m j')) E) E := by
  unfold eMt1 noP
  congr 1
  funext x j1
  exact propext ⟨fun ⟨k, a, b, p⟩ => ⟨⟨k, a, b⟩, p⟩, fun ⟨⟨k, a, b⟩, p⟩ => ⟨k, a, b, p⟩⟩
@[simp ↓] theorem a_mt1 {φ : Fv J} : eMt1 c nm φ fo fr m j P E = fo m j (fun x j1 => noP c nm x ∧ fr m j1 (fun xs j2 => WF φ (x :: xs) j2 P (fun e j' => E e m j')) E) E := mt1_eq
/-- a making: what follows is not looked at -/
def WM (c : Nat) (φ : Fv Ob) (xs : List D) (P : D → Prop) (E : Ex → Prop) (_t : Tg P E := .mk) : Prop := ∀ a, φ (.obj a :: xs) ⟨a, c, []⟩ (fun d o => d = .non ∧ o.ad = a ∧ o.c = c ∧ P o.flat) (fun e _ => E e)
@[simp ↓] theorem a_mak {φ : Fv Ob} : eMak c φ fr m j P E = fr m j (fun xs j1 => WM c φ xs (fun d => P d j1) (fun e => E e m j1)) E := rfl
@[simp ↓] theorem a_setK : sSetK i fk fe m j PS E = ∃ kds, m[i]? = some (some (.dct kds)) ∧ fe m j (fun d j1 => fk m j1 (fun kd j2 => ∃ k, keyD kd = some k ∧ kds.length < LINE ∧ PS .next (m.set i (some (.dct (putD kds k d)))) j2) E) E := rfl
end
section
variable {f fe fk fo : Ev Ob} {fr : Av Ob} {m : Sd} {o : Ob} {P : D → Ob → Prop} {PT : Bool → Ob → Prop} {PS : Fl → Sd → Ob → Prop} {E : XP Ob} {c : Nat} {nm : Str} {φ : D → D → Option D} {g : Ev Unit} {gt : Tv Unit}
@[simp ↓] theorem a_lend : eLend g m o P E = (m[0]? = some (some (.obj o.ad)) ∧ g (m.set 0 (some o.flat)) () (fun d _ => tupD d = true ∧ P d o) xNo) := rfl
@[simp ↓] theorem a_lendF : eLendF g m o P E = (m[0]? = some (some (.obj o.ad)) ∧ g (m.set 0 (some o.flat)) () (fun d _ => freshB d = true ∧ P d o) xNo) := rfl
@[simp ↓] theorem a_tlend : tLend gt m o PT E = (m[0]? = some (some (.obj o.ad)) ∧ gt (m.set 0 (some o.flat)) () (fun d _ => PT d o) xNo) := rfl
@[simp ↓] theorem a_mtO {φ : Fv Ob} : eMtO c nm φ fo fr m o P E = fo m o (fun x o1 => x = .obj o1.ad ∧ o1.c = c ∧ getF nm o1.fs = none ∧ fr m o1 (fun xs o2 => WF φ (x :: xs) o2 P (fun e j' => E e m j')) E) E := rfl
@[simp ↓] theorem a_oset : sOSet c nm fe m o PS E = fe m o (fun d o1 => m[0]? = some (some (.obj o1.ad)) ∧ o1.c = c ∧ o1.fs.length < 100 ∧ PS .next m (o1.put nm (.val d))) E := rfl
@[simp ↓] theorem a_osetO : sOSetO c nm fe m o PS E = fe m o (fun d o1 => m[0]? = some (some (.obj o1.ad)) ∧ o1.c = c ∧ o1.fs.length < 100 ∧ ∃ xs, d = .lst xs ∧ ∀ b, PS .next m (o1.put nm (.own b xs))) E := rfl
@[simp ↓] theorem a_oaug : sOAug φ c nm fe m o PS E = (m[0]? = some (some (.obj o.ad)) ∧ o.c = c ∧ ∃ x, getF nm o.fs = some (.val x) ∧ fe m o (fun y o1 => o1.ad = o.ad ∧ o1.c = c ∧ o1.fs.length < 100 ∧ ∃ z, φ x y = some z ∧ PS .next m (o1.put nm (.val z))) E) := rfl
@[simp ↓] theorem a_oapp : sOApp c nm fe m o PS E = (m[0]? = some (some (.obj o.ad)) ∧ o.c = c ∧ ∃ b xs0, getF nm o.fs = some (.own b xs0) ∧ fe m o (fun d o1 => ∃ xs, getF nm o1.fs = some (.own b xs) ∧ xs.length < LINE ∧ PS .next m (o1.setL nm (xs ++ [d]))) E) := rfl
@[simp ↓] theorem a_opop : sOPop c nm m o PS E = (m[0]? = some (some (.obj o.ad)) ∧ o.c = c ∧ ∃ b xs y, getF nm o.fs = some (.own b xs) ∧ xs.getLast? = some y ∧ PS .next m (o.setL nm xs.dropLast)) := rfl
@[simp ↓] theorem a_oins : sOIns c nm fk m o PS E = (m[0]? = some (some (.obj o.ad)) ∧ o.c = c ∧ ∃ b xs0, getF nm o.fs = some (.own b xs0) ∧ fk m o (fun kd o1 => ∃ (i : Int) (xs : List D) (y : D), kd = .int i ∧ o1.ad = o.ad ∧ o1.c = c ∧ getF nm o1.fs = some (.own b xs) ∧ xs.getLast? = some y ∧ 0 ≤ i ∧ i < LIM ∧ xs.length < LINE ∧ PS .next m (o1.setL nm (xs.dropLast.take i.toNat ++ [y] ++ xs.dropLast.drop i.toNat))) E) := rfl
@[simp ↓] theorem a_osetIx : sOSetIx c nm fk fe m o PS E = fe m o (fun d o1 => m[0]? = some (some (.obj o1.ad)) ∧ o1.c = c ∧ ∃ b xs0, getF nm o1.fs = some (.own b xs0) ∧ fk m o1 (fun kd o2 => ∃ xs i n, getF nm o2.fs = some (.own b xs) ∧ kd = .int i ∧ ixN xs.length i = some n ∧ PS .next m (o2.setL nm (xs.set n d))) E) E := rfl
@[simp ↓] theorem a_oaugIx : sOAugIx φ c nm fk fe m o PS E = (m[0]? = some (some (.obj o.ad)) ∧ o.c = c ∧ ∃ b xs0, getF nm o.fs = some (.own b xs0) ∧ fk m o (fun kd o1 => ∃ xs i x, getF nm o1.fs = some (.own b xs) ∧ kd = .int i ∧ atI xs i = some x ∧ fe m o1 (fun y o2 => ∃ xs2 n z, getF nm o2.fs = some (.own b xs2) ∧ φ x y = some z ∧ ixN xs2.length i = some n ∧ PS .next m (o2.setL nm (xs2.set n z))) E) E) := rfl
end
@[simp] theorem str_lit {a b : String} : (Str.ofString a = Str.ofString b) = (a = b) := propext ofString_inj
end Mp

/-! OD: two names and an attribute of the object under construction at once. -/
namespace Mp
open PySem PySem.Spec L2
open PyProof.Rows hiding St
section
variable {X : Cx} {o : Expr} {f : Str} {pos : Pos} {ta : TE}
def gFld (K : PySem.W.Frag) (ta : TE) (f : Str) : TG := fun v σ H Q => ta σ H fun x H2 => ∃ a C dx fs, x = .ref a ∧ H2 a = some (.ins C dx fs) ∧ Cls K C ∧ NoAttr K C f ∧ fs.length < 1000 ∧ Q σ (upd H2 a (.ins C dx (putF f v fs)))
theorem pg_fld (ho : PE X o ta) : PG X (.Attribute o f pos) (gFld X.K ta f) := by
  refine ⟨fun pins s σ H v u Q I r h => ?_⟩
  rw [assign_Attribute]
  refine wpAny_bind (wpAny_holding (thn (ho.run pins s σ H _ I h) fun ov s1 ⟨x, H1, I1, r1, a, C, dx, fs, ex, ea, c, n, l, q⟩ => ?_))
  subst ex
  obtain rfl : ov = Value.ref a := r1
  exact wpAny_bind (wpAny_standAt (wpAny_bind (wpAny_holding (setattr_ok I1 ea c n l r fun s3 I3 => wpAny_release ⟨σ, _, I3, q⟩))))
end
/-- a source with these classes -/
structure Lk (K : PySem.W.Frag) (cl xc : Nat → Addr) (xf : Nat → Str) {J : Type} (S : Js J) : Prop where
  K : S.K = K
  cl : S.cl = cl
  xc : S.xc = xc
  xf : S.xf = xf
def sAsgO (i k : Nat) (c : Nat) (f : Str) (fe : Ev Ob) (m : Sd) (o : Ob) (P : Fl → Sd → Ob → Prop) (E : XP Ob) : Prop := fe m o (fun d o1 => ∃ x y z, d = .tup [x, y, z] ∧ m[0]? = some (some (.obj o1.ad)) ∧ o1.c = c ∧ o1.fs.length < 100 ∧ P .next ((m.set i (some x)).set k (some y)) (o1.put f (.val z))) E
instance {i k c : Nat} {f : Str} {fe : Ev Ob} [h : MoE fe] : MoS (sAsgO i k c f fe) := ⟨fun h1 q x => h.mo h1 (fun _ _ ⟨u, v, w, a, b, d, e, p⟩ => ⟨u, v, w, a, b, d, e, q _ _ _ p⟩) x⟩
section
variable {J : Type} {S : Js J} {B : Bs} {M : Nat → Bool} {W : WX} {X : Cx} {e : Expr} {pos px py pz pt np : Pos} {fe : Ev Ob} {c kt i k : Nat} {f x y z : Str} {attrs : List Str}
theorem zAsgO (i k : Nat) (hN : X.N.Nodup) (hK : X.K = S.K) (T : ClsT S c attrs) (hf : f ∈ attrs) (he : PE X e (rdE (jsO S) B M W .clean fe)) (hx : MtN X 0 x := by exact mtN _) (hM0 : M 0 = false := by rfl) (hMi : M i = false := by rfl) (hMk : M k = false := by rfl) (hi0 : i ≠ 0 := by decide) (hk0 : k ≠ 0 := by decide)
    (hi : X.N[i]? = some y := by rfl) (hk : X.N[k]? = some z := by rfl)
    (hly : Loc X.env.scope y := by first | exact Or.inl rfl | exact Or.inr rfl) (hfy : X.fn y = true ∨ X.env.scope.names.lookup y = some .local := by first | exact .inl rfl | exact .inr rfl)
    (hlz : Loc X.env.scope z := by first | exact Or.inl rfl | exact Or.inr rfl) (hfz : X.fn z = true ∨ X.env.scope.names.lookup z = some .local := by first | exact .inl rfl | exact .inr rfl)
    (hc : X.calm = true := by rfl)
    (hs : swapsWithSole [.Tuple [.Name y py, .Name z pz, .Attribute (.Name x np) f px] kt pt] e pos.line X.env = pure false := by rfl) (hw : swappedStores [.Tuple [.Name y py, .Name z pz, .Attribute (.Name x np) f px] kt pt] e X.env = pure none := by rfl)
    (h1 : (assignEach [.Tuple [.Name y py, .Name z pz, .Attribute (.Name x np) f px] kt pt] X.env).map (·.2) = [assign (.Tuple [.Name y py, .Name z pz, .Attribute (.Name x np) f px] kt pt) X.env] := by rfl)
    (hn3 : (assignEach [.Name y py, .Name z pz, .Attribute (.Name x np) f px] X.env).length = 3 := by rfl) (hst : (assignEach [.Name y py, .Name z pz, .Attribute (.Name x np) f px] X.env).findIdx? (·.1) = none := by rfl)
    (t1 : (assignEach [.Name y py, .Name z pz, .Attribute (.Name x np) f px] X.env).map (·.2) = assign (.Name y py) X.env :: (assignEach [.Name z pz, .Attribute (.Name x np) f px] X.env).map (·.2) := by rfl)
    (t2 : (assignEach [.Name z pz, .Attribute (.Name x np) f px] X.env).map (·.2) = assign (.Name z pz) X.env :: (assignEach [.Attribute (.Name x np) f px] X.env).map (·.2) := by rfl)
    (t3 : (assignEach [.Attribute (.Name x np) f px] X.env).map (·.2) = assign (.Attribute (.Name x np) f px) X.env :: (assignEach [] X.env).map (·.2) := by rfl) :
    PS X (.Assign [.Tuple [.Name y py, .Name z pz, .Attribute (.Name x np) f px] kt pt] e pos) (rdS (jsO S) B M W (sAsgO i k c f fe)) :=
  PS.imp (ps_asg he (pg_tup hc (pgs_cons (pg_name hN hi hly hfy) (pgs_cons (pg_name hN hk hlz hfz) (pgs_cons (pg_fld hx.pe) pgs_nil t3) t2) t1) hn3 hst) hs hw h1) fun En r H ⟨g, m, o, P, E, ok, h, q, xo⟩ => by
    refine ⟨g, m, o, _, E, ok, h, fun d o1 g1 v H1 hh l1 ok1 w => ?_, xo⟩
    obtain ⟨dx1, dx2, dx3, rfl, h0, hcc, hl, p⟩ := hh
    obtain ⟨ta, vs, rfl, hta, ra⟩ := tup_of (show Rp (jsO S) g1.F _ v from w)
    cases ra with
    | @cons _ _ v1 _ r1 ra =>
    cases ra with
    | @cons _ _ v2 _ r2 ra =>
    cases ra with
    | @cons _ _ v3 _ r3 ra =>
    cases ra
    have jr : ObR S o1 g1.F g1.A H1 := ok1.b.jr
    obtain ⟨dx, kvs, e1, e2, jr2⟩ := jr.putV (f := f) (Rp.cv (S := jsO S) (S' := S) rfl rfl rfl r3)
    refine ⟨ta, _, rfl, by rw [hK]; exact sqT_same (ok1.b.fg.trans ok1.b.gh) hta.t, rfl, _, _, rfl, _, _, rfl, _, _, rfl, ?_⟩
    have s1 := (ok1.s.set_fr hMi r1).set_fr hMk r2
    have hself : ((r.set i (some v1)).set k (some v2))[0]? = some (some (.ref o1.ad)) := by
      rw [List.getElem?_set_ne hk0, List.getElem?_set_ne hi0]; exact ok1.self hM0 h0
    refine ⟨_, hself, o1.ad, _, dx, kvs, rfl, e1, hK ▸ hcc ▸ T.cls, hK ▸ hcc ▸ T.no f hf, by rw [e2]; omega, ?_⟩
    refine ⟨rfl, q _ _ _ p g1 _ _ l1.f ⟨ok1.b.wrO jr.at_ e1 (by intro x y z; cases z) jr2, s1⟩⟩
end
/-- an attribute of the object under construction that is a value -/
def eAtO (c : Nat) (f : Str) (m : Sd) (o : Ob) (P : D → Ob → Prop) (E : XP Ob) : Prop := m[0]? = some (some (.obj o.ad)) ∧ o.c = c ∧ ∃ d, getF f o.fs = some (.val d) ∧ P d o
instance {c : Nat} {f : Str} : MoE (eAtO c f) := ⟨fun ⟨a, b, d, e, p⟩ q x => ⟨a, b, d, e, q _ _ p⟩⟩
section
variable {J : Type} {S : Js J} {B : Bs} {M : Nat → Bool} {W : WX} {X : Cx} {p np : Pos} {c : Nat} {f x : Str} {attrs : List Str}
theorem atO (hK : X.K = S.K) (T : ClsT S c attrs) (hf : f ∈ attrs) (hx : MtN X 0 x := by exact mtN _) (hM : M 0 = false := by rfl) (hb : attributeBase (.Name x np) f X.env (eval (.Name x np) X.env) = eval (.Name x np) X.env := by rfl) : PE X (.Attribute (.Name x np) f p) (rdE (jsO S) B M W .clean (eAtO c f)) :=
  PE.imp (pe_fld hx.pe hb) fun r H Q ⟨g, m, o, P, E, ok, ⟨h0, hc, d, hg, hp⟩, q, xo⟩ => by
    have jr : ObR S o g.F g.A H := ok.b.jr
    obtain ⟨dx, kvs, e1, e2, e3, e4⟩ := jr.ex
    obtain ⟨v, l1, fr⟩ := e4.get hg
    have rv : Rp S g.F d v := by cases fr; assumption
    exact ⟨_, ok.self hM h0, o.ad, _, dx, kvs, v, rfl, e1, hK ▸ hc ▸ T.cls, hK ▸ hc ▸ T.no f hf, l1, q _ _ g v H hp (Le.refl g) ok (show Rp (jsO S) g.F d v from Rp.cv (S := S) (S' := jsO S) rfl rfl rfl rv)⟩
end
@[simp ↓] theorem a_atO {c : Nat} {f : Str} {m : Sd} {o : Ob} {P : D → Ob → Prop} {E : XP Ob} : eAtO c f m o P E = (m[0]? = some (some (.obj o.ad)) ∧ o.c = c ∧ ∃ d, getF f o.fs = some (.val d) ∧ P d o) := rfl
@[simp ↓] theorem a_asgO {i k c : Nat} {f : Str} {fe : Ev Ob} {m : Sd} {o : Ob} {PS : Fl → Sd → Ob → Prop} {E : XP Ob} : sAsgO i k c f fe m o PS E = fe m o (fun d o1 => ∃ x y z, d = .tup [x, y, z] ∧ m[0]? = some (some (.obj o1.ad)) ∧ o1.c = c ∧ o1.fs.length < 100 ∧ PS .next ((m.set i (some x)).set k (some y)) (o1.put f (.val z))) E := rfl
end Mp

/-! P1: the random source of the laws k11 to k24 (boot, spin): a list of two ints. -/
namespace Mp
open PySem PySem.Spec L2
open PyProof.Rows hiding St
/-- an int below k, any; the source is not counted -/
def drawN (ds : List D) (n : Nat) (P : D → Nat → Prop) (E : Ex → Nat → Prop) : Prop := ∃ k, ds = [.jar, .int k] ∧ 0 < k ∧ sm k = true ∧ ∀ v, 0 ≤ v → v < k → P (.int v) n
instance : MoF drawN := ⟨fun ⟨k, e, h1, h2, h⟩ q _ => ⟨k, e, h1, h2, fun v a b => q _ _ (h v a b)⟩⟩
theorem drawN_len {ds : List D} {n : Nat} {P : D → Nat → Prop} {E : Ex → Nat → Prop} (h : drawN ds n P E) : ds.length = 2 := by obtain ⟨k, rfl, _⟩ := h; rfl
def repS (R : Addr) (r k : Int) (A : Addr → Prop) (H : Hp) : Prop := 0 ≤ r ∧ 0 ≤ k ∧ k < 2305843009213693951 ∧ H R = some (.lst [.int r, .int k]) ∧ ∀ b, A b ↔ b = R
def jsS (K : PySem.W.Frag) (cl xc : Nat → Addr) (xf : Nat → Str) (R : Addr) : Js Nat where
  K := K
  R := .ref R
  cl := cl
  xc := xc
  xf := xf
  rep := fun n _ A H => ∃ r k, repS R r k A H
  frame := fun {n F F' A H H'} ⟨r, k, h1, h2, h3, h4, h5⟩ s q => ⟨r, k, h1, h2, h3, by rw [q R ((h5 R).mpr rfl)]; exact h4, h5⟩
  dom := fun {n F A H b} ⟨r, k, h1, h2, h3, h4, h5⟩ a => by rw [(h5 b).mp a, h4]; simp
instance {K : PySem.W.Frag} {cl xc : Nat → Addr} {xf : Nat → Str} {R : Addr} : PureJ (jsS K cl xc xf R) := ⟨fun h => h⟩
def rGtI : R2 := rI0 fun i j => .bl (decide (j < i))
def rGeI : R2 := rI0 fun i j => .bl (decide (j ≤ i))
def rMulI : R2 := rI CMul fun i j => .int (i * j)
def tS0 (K : PySem.W.Frag) : TE := tOp (rIxL K) (tVar 0) (tC (.int 0))
def tS1 (K : PySem.W.Frag) : TE := tOp (rIxL K) (tVar 0) (tC (.int 1))
def tSpin (K : PySem.W.Frag) : TS :=
  tSeq (tIfS (tTest (tOp rGtI (tS0 K) (tC (.int 0))))
    (tSeq (tAsg (tOp rMod (tS0 K) (tVar 1)) (gName 2))
      (tSeq (tAsg (tOp rDivW (tS0 K) (tVar 1)) (gSub (tVar 0) (tC (.int 0)) rSetL))
        (tRet (tVar 2)))) tNext)
  (tSeq (tAsg (tOp rMod (tOp rAddI (tOp rMulW (tS1 K) (tC (.int 6364136223846793005))) (tC (.int 1442695040888963407))) (tC (.int 2305843009213693951))) (gSub (tVar 0) (tC (.int 1)) rSetL))
  (tRet (tOp rMod (tOp rDivW (tS1 K) (tC (.int 1048573))) (tVar 1))))
theorem spin_pure {K : PySem.W.Frag} {cl xc : Nat → Addr} {xf : Nat → Str} {R : Addr} {N : List Str} (hN : N.length = 3) {vs : List V} {H : Hp} {Q : VK} {E : XK} (h : spF (jsS K cl xc xf R) 2 drawN vs H Q E) : tSpin K { nx := fun _ H' => Q .non H', rt := Q } (L2.start N vs) H := by
  obtain ⟨F, A, n, ds, P, Ep, fh, fa, ⟨r, key, j1, j2, j3, h4, h5⟩, sM, rp, hl, ⟨k, rfl, c1, c2, hp⟩, q, _⟩ := h
  cases rp with
  | cons r1 rp =>
    cases rp with
    | cons r2 rp =>
      cases rp
      cases r1
      cases r2
      have st : L2.start N [.ref R, .int k] = [some (.ref R), some (.int k), none] := by
        unfold L2.start; rw [hN]; rfl
      show tSpin K _ (L2.start N [.ref R, .int k]) H
      rw [st]
      have aR : A R := (h5 R).mpr rfl
      have na : ¬ A sysModules := fun z => by
        obtain ⟨o, u, eo⟩ := sM
        rw [(h5 _).mp z, h4] at eo; cases eo
      have kdiv : ∀ i, CDivW i k := fun _ => ⟨c1, Nat.lt_of_lt_of_le (sm_log c2) (by decide)⟩
      have fin : ∀ (r' key' v : Int) (H' : Hp), Out A H H' → H' R = some (.lst [.int r', .int key']) → 0 ≤ r' → 0 ≤ key' → key' < 2305843009213693951 → 0 ≤ v → v < k → Q (.int v) H' := fun r' key' v H' o e a b c v0 v1 =>
        q _ n F A H' _ (hp v v0 v1) (o.post fh fa ⟨r', key', a, b, c, e, h5⟩ sM na) (.int _)
      refine ⟨_, rfl, R, _, 0, .int r, rfl, rfl, .of h4, rfl, _, _, rfl, rfl, _, rfl, ?_⟩
      by_cases hr : 0 < r
      · rw [decide_eq_true hr]
        refine iteT ?_
        refine ⟨_, rfl, R, _, 0, .int r, rfl, rfl, .of h4, rfl, _, rfl, r, k, rfl, rfl, c1, ?_⟩
        refine ⟨_, rfl, R, _, 0, .int r, rfl, rfl, .of h4, rfl, _, rfl, r, k, rfl, rfl, kdiv r, _, rfl, R, _, 0, 0, rfl, rfl, h4, rfl, ?_⟩
        refine ⟨_, rfl, ?_⟩
        exact fin (r / k) key (r % k) _ ((Out.refl A H).at aR _) upd_same (Int.ediv_nonneg j1 (by omega)) j2 j3 (Int.emod_nonneg _ (by omega)) (Int.emod_lt_of_pos _ c1)
      · rw [decide_eq_false hr]
        refine iteF ?_
        refine ⟨_, rfl, R, _, 1, .int key, rfl, rfl, .of h4, rfl, _, _, rfl, rfl, wide_mul (a := 64) (b := 64) (by omega) (by decide) (by decide) (by decide) (by decide), _, _, rfl, rfl, _, _, rfl, rfl, (by decide : (0 : Int) < 2305843009213693951), _, rfl, R, _, 1, 1, rfl, rfl, h4, rfl, ?_⟩
        refine ⟨_, rfl, R, _, 1, .int ((key * 6364136223846793005 + 1442695040888963407) % 2305843009213693951), rfl, rfl, .of upd_same, rfl, _, _, rfl, rfl, ⟨by decide, by decide⟩, _, rfl, _, k, rfl, rfl, c1, ?_⟩
        exact fin r _ _ _ ((Out.refl A H).at aR _) upd_same j1 (Int.emod_nonneg _ (by decide)) (Int.emod_lt_of_pos _ (by decide)) (Int.emod_nonneg _ (by omega)) (Int.emod_lt_of_pos _ c1)
/-! ### boot -/
def tAbs3 : TE := tCB rAbs1 (tCons (tVar 3) tNil)
def tTenP : TE := tOp rPowI (tC (.int 10)) (tC (.int 18))
def tCutS (K : PySem.W.Frag) : TE := L2.tSl (rSlL K) (tVar 0) tNoPart (tPart (tC (.int 60)))
def tBoot (K : PySem.W.Frag) : TS :=
  tSeq (tPar 1 2 (tCons (tC (.int 0)) (tCons (tOp rAddI (tC (.int 3850)) (tCB (rLen1 K) (tCons (tVar 0) tNil))) tNil)))
  (tSeq (tFor (iList K (tCutS K)) (gName 3)
    (tSeq (tAsg (tIf (tTest (tOp rGeI tAbs3 tTenP)) (tOp rAddI (tOp rMulI (tVar 1) (tC (.int 3))) tAbs3) (tVar 1)) (gName 1))
      (tAsg (tOp rMod (tOp rAddI (tOp rAddI (tOp rMulI (tVar 2) (tC (.int 40503))) (tOp rMulI tAbs3 (tC (.int 2)))) (tCB rIntB (tCons (tOp rLtI (tVar 3) (tC (.int 0))) tNil))) (tC (.int 2305843009213693951))) (gName 2))))
  (tRet (tLst (tCons (tVar 1) (tCons (tVar 2) tNil)))))
theorem cut60 {ns : List Int} : cutV (ns.map V.int) none (some 60) = (ns.take 60).map V.int := by
  unfold cutV
  have e1 : HT.sIx (ns.map V.int).length 0 none = 0 := rfl
  have e2 : HT.sIx (ns.map V.int).length (ns.map V.int).length (some 60) = min 60 (ns.map V.int).length := rfl
  rw [e1, e2, List.drop_zero, Nat.sub_zero, List.map_take]
  by_cases h : 60 ≤ (ns.map V.int).length
  · rw [Nat.min_eq_left h]
  · rw [Nat.min_eq_right (by omega), List.take_length, List.take_of_length_le (by omega)]
def spBoot (K : PySem.W.Frag) (cl xc : Nat → Addr) (xf : Nat → Str) : Sp := spOpenG (jsS K cl xc xf) Few K
theorem boot_pure {K : PySem.W.Frag} {cl xc : Nat → Addr} {xf : Nat → Str} {N : List Str} (hN : N.length = 4) {vs : List V} {H : Hp} {Q : VK} {E : XK} (h : spBoot K cl xc xf vs H Q E) : tBoot K { nx := fun _ H' => Q .non H', rt := Q } (L2.start N vs) H := by
  obtain ⟨a, ns, rfl, hl, hS, q⟩ := h
  have st : L2.start N [.ref a] = [some (.ref a), none, none, none] := by unfold L2.start; rw [hN]; rfl
  rw [st]
  refine ⟨_, rfl, _, _, rfl, .inl ⟨_, hS, rfl⟩, _, _, rfl, rfl, _, _, rfl, ?_⟩
  refine ⟨.ref a, rfl, 60, rfl, a, _, rfl, hS, fun p hp => ?_⟩
  rw [cut60]
  have s1 : Same H (upd H p (.lst ((ns.take 60).map V.int))) := same_new hp
  generalize hH1 : upd H p (.lst ((ns.take 60).map V.int)) = H1 at *
  have hp1 : H1 p = some (.lst ((ns.take 60).map V.int)) := by rw [← hH1]; exact upd_same
  clear hH1
  refine ⟨p, rfl, ⟨_, .of hp1⟩, for_list (K := K) (a := p) (xs := (ns.take 60).map V.int) (fun i σ H' => H' = H1 ∧ ∃ (r s : Int) (v : Option V), σ = [some (.ref a), some (.int r), some (.int s), v] ∧ 0 ≤ r ∧ 0 ≤ s ∧ s < 2305843009213693951) ⟨rfl, 0, _, none, rfl, by omega, ?_, ?_⟩ (fun i σ H' _ h => by rw [h.1]; exact .of hp1) ?_ ?_⟩
  · omega
  · rw [List.length_map]; omega
  · rintro i y σ H' hi ⟨rfl, r, s, v, rfl, r0, s0, s1'⟩
    obtain ⟨z, hz, rfl⟩ : ∃ z, (ns.take 60)[i]? = some z ∧ y = V.int z := by
      rw [List.getElem?_map, Option.map_eq_some_iff] at hi
      obtain ⟨z, h1, h2⟩ := hi
      exact ⟨z, h1, h2.symm⟩
    refine ⟨_, rfl, z, rfl, _, _, rfl, rfl, ⟨by decide, by decide, by decide⟩, _, _, rfl, rfl, _, rfl, ?_⟩
    by_cases hz2 : 10 ^ (18 : Int).toNat ≤ (if z < 0 then -z else z)
    · rw [decide_eq_true hz2]
      refine iteT ?_
      refine ⟨_, rfl, _, _, rfl, rfl, .inr ⟨by decide, by decide⟩, _, rfl, z, rfl, _, _, rfl, rfl, ?_⟩
      refine ⟨_, rfl, _, _, rfl, rfl, .inr ⟨by decide, by decide⟩, _, rfl, z, rfl, _, _, rfl, rfl, .inr ⟨by decide, by decide⟩, _, _, rfl, rfl, _, rfl, _, _, rfl, rfl, .inr ⟨_, rfl, _, _, rfl, rfl, _, _, rfl, rfl, (by decide : (0 : Int) < 2305843009213693951), rfl, _, _, some (.int z), rfl, ?_, Int.emod_nonneg _ (by decide), Int.emod_lt_of_pos _ (by decide)⟩⟩
      split <;> omega
    · rw [decide_eq_false hz2]
      refine iteF ?_
      refine ⟨_, rfl, ?_⟩
      exact ⟨_, rfl, _, _, rfl, rfl, .inr ⟨by decide, by decide⟩, _, rfl, z, rfl, _, _, rfl, rfl, .inr ⟨by decide, by decide⟩, _, _, rfl, rfl, _, rfl, _, _, rfl, rfl, .inr ⟨_, rfl, _, _, rfl, rfl, _, _, rfl, rfl, (by decide : (0 : Int) < 2305843009213693951), rfl, _, _, some (.int z), rfl, r0, Int.emod_nonneg _ (by decide), Int.emod_lt_of_pos _ (by decide)⟩⟩
  · rintro σ H' ⟨rfl, r, s, v, rfl, r0, s0, s1'⟩
    refine ⟨_, rfl, _, rfl, (show 2 ≤ sizeLine by decide), fun R nR => ?_⟩
    exact q _ R (fun b => b = R) 0 (s1.trans (same_new nR)) (fun b hb => by rw [hb]; exact s1.free nR) (Nat.zero_le _) ⟨r, s, r0, s0, s1', upd_same, fun b => Iff.rfl⟩
end Mp

/-! OA: four names at once. -/
namespace Mp
open PySem PySem.Spec L2
variable {J : Type}
def sPr4 (i k l n : Nat) (fa fb fc fd : Ev J) (m : Sd) (j : J) (P : Fl → Sd → J → Prop) (E : XP J) : Prop := fa m j (fun x j1 => fb m j1 (fun y j2 => fc m j2 (fun z j3 => fd m j3 (fun u j4 => P .next ((((m.set i (some x)).set k (some y)).set l (some z)).set n (some u)) j4) E) E) E) E
instance {i k l n : Nat} {f1 f2 f3 f4 : Ev J} [h1 : MoE f1] [h2 : MoE f2] [h3 : MoE f3] [h4 : MoE f4] : MoS (sPr4 i k l n f1 f2 f3 f4) := ⟨fun h q x => h1.mo h (fun _ _ h => h2.mo h (fun _ _ h => h3.mo h (fun _ _ h => h4.mo h (fun _ _ p => q _ _ _ p) x) x) x) x⟩
section
variable {S : Js J} {B : Bs} {M : Nat → Bool} {W : WX} {X : Cx} {i k l n : Nat} {a b c e : Expr} {fa fb fc fe : Ev J} {pos px py pz pu pt pt2 : Pos} {kt k2 : Nat} {x y z u : Str}
theorem zPr4 (i k l n : Nat) (hN : X.N.Nodup) (hK : X.K = S.K) (ha : PE X a (rdE S B M W (clOf M i) fa)) (hb : PE X b (rdE S B M W (clOf M k) fb)) (hcc : PE X c (rdE S B M W (clOf M l) fc)) (he : PE X e (rdE S B M W (clOf M n) fe)) (hc : X.calm = true := by rfl)
    (hi : X.N[i]? = some x := by rfl) (hk : X.N[k]? = some y := by rfl) (hl : X.N[l]? = some z := by rfl) (hn : X.N[n]? = some u := by rfl) (hik : i ≠ k := by decide) (hil : i ≠ l := by decide) (hin : i ≠ n := by decide) (hkl : k ≠ l := by decide) (hkn : k ≠ n := by decide) (hln : l ≠ n := by decide)
    (hx : X.env.scope.names.lookup x = some .local := by rfl) (hy : X.env.scope.names.lookup y = some .local := by rfl) (hz : X.env.scope.names.lookup z = some .local := by rfl) (hu : X.env.scope.names.lookup u = some .local := by rfl)
    (hs1 : starEach [a, b, c, e] X.env = (false, eval a X.env) :: starEach [b, c, e] X.env := by rfl) (hs2 : starEach [b, c, e] X.env = (false, eval b X.env) :: starEach [c, e] X.env := by rfl) (hs3 : starEach [c, e] X.env = (false, eval c X.env) :: starEach [e] X.env := by rfl) (hs4 : starEach [e] X.env = [(false, eval e X.env)] := by rfl)
    (hw : swappedStores [.Tuple [.Name x px, .Name y py, .Name z pz, .Name u pu] kt pt] (.Tuple [a, b, c, e] k2 pt2) X.env = pure none := by rfl)
    (hs : swapsWithSole [.Tuple [.Name x px, .Name y py, .Name z pz, .Name u pu] kt pt] (.Tuple [a, b, c, e] k2 pt2) pos.line X.env = pure false := by rfl)
    (h1 : (assignEach [.Tuple [.Name x px, .Name y py, .Name z pz, .Name u pu] kt pt] X.env).map (·.2) = [assign (.Tuple [.Name x px, .Name y py, .Name z pz, .Name u pu] kt pt) X.env] := by rfl)
    (hn4 : (assignEach [.Name x px, .Name y py, .Name z pz, .Name u pu] X.env).length = 4 := by rfl) (hst : (assignEach [.Name x px, .Name y py, .Name z pz, .Name u pu] X.env).findIdx? (·.1) = none := by rfl)
    (t1 : (assignEach [.Name x px, .Name y py, .Name z pz, .Name u pu] X.env).map (·.2) = assign (.Name x px) X.env :: (assignEach [.Name y py, .Name z pz, .Name u pu] X.env).map (·.2) := by rfl) (t2 : (assignEach [.Name y py, .Name z pz, .Name u pu] X.env).map (·.2) = assign (.Name y py) X.env :: (assignEach [.Name z pz, .Name u pu] X.env).map (·.2) := by rfl)
    (t3 : (assignEach [.Name z pz, .Name u pu] X.env).map (·.2) = assign (.Name z pz) X.env :: (assignEach [.Name u pu] X.env).map (·.2) := by rfl) (t4 : (assignEach [.Name u pu] X.env).map (·.2) = assign (.Name u pu) X.env :: (assignEach [] X.env).map (·.2) := by rfl) :
    PS X (.Assign [.Tuple [.Name x px, .Name y py, .Name z pz, .Name u pu] kt pt] (.Tuple [a, b, c, e] k2 pt2) pos) (rdS S B M W (sPr4 i k l n fa fb fc fe)) :=
  PS.imp (ps_asg (pe_tupF (pa_cons ha (pa_cons hb (pa_cons hcc (pa_cons he pa_nil hs4) hs3) hs2) hs1)) (pg_tup hc (pgs_cons (pg_name hN hi (.inl hx) (.inr hx)) (pgs_cons (pg_name hN hk (.inl hy) (.inr hy)) (pgs_cons (pg_name hN hl (.inl hz) (.inr hz)) (pgs_cons (pg_name hN hn (.inl hu) (.inr hu)) pgs_nil t4) t3) t2) t1) hn4 hst) hs hw h1) fun E r H ⟨g, m, j, P, Ep, ok, hf, q, xo⟩ => by
    refine ⟨g, m, j, _, Ep, ok, hf, fun _ j1 g1 v1 H1 h1 l1 ok1 w1 => ⟨g1, m, _, _, Ep, ok1, h1, fun _ j2 g2 v2 H2 h2 l2 ok2 w2 => ⟨g2, m, _, _, Ep, ok2, h2, fun _ j3 g3 v3 H3 h3 l3 ok3 w3 => ⟨g3, m, _, _, Ep, ok3, h3, fun _ j4 g4 v4 H4 p l4 ok4 w4 => ⟨by show 4 ≤ sizeLine; rw [sizeLine_eq]; decide, fun p' o np hdo => ?_⟩, xo.le ((l1.trans l2).trans l3).f⟩, xo.le (l1.trans l2).f⟩, xo.le l1.f⟩, xo⟩
    have ne : ∀ {ga gb gc gd : Gh} {i k : Nat} {d1 d2 : D} {v w : V}, Val S ga gb (clOf M i) d1 v → Val S gc gd (clOf M k) d2 w → Same gb.G gc.G → M i = true → M k = true → v ≠ w := fun w1 w2 s hMi hM => by
      obtain ⟨a1, o1, rfl, e1⟩ := val_in (clOf_fresh hMi w1)
      obtain ⟨a2, rfl, n2, _⟩ := clOf_fresh hM w2
      intro z
      cases z
      rw [s _ _ e1] at n2; cases n2
    have n4 : g4.G p' = none := (ok4.b.hn np).2.1
    have lv : Le g4 (g4.see p' (.frz o (.tup [v1, v2, v3, v4]))) := Le.see n4
    refine ⟨p', [v1, v2, v3, v4], rfl, .inl (.inr ⟨o, upd_same⟩), rfl, _, _, rfl, _, _, rfl, _, _, rfl, _, _, rfl, rfl, ?_⟩
    refine q _ _ _ p _ _ _ ((((l1.trans l2).trans l3).trans l4).trans lv).f ⟨ok4.b.see _ np, ?_⟩
    have s0 := ok4.s.le lv
    have ap1 : M i = true → Apt M r m v1 := fun hM => ok.s.apt (w := .fresh) (clOf_fresh hM w1)
    have ap2 : M k = true → Apt M r m v2 := fun hM => ok1.s.apt (w := .fresh) (clOf_fresh hM w2)
    have ap3 : M l = true → Apt M r m v3 := fun hM => ok2.s.apt (w := .fresh) (clOf_fresh hM w3)
    have ap4 : M n = true → Apt M r m v4 := fun hM => ok3.s.apt (w := .fresh) (clOf_fresh hM w4)
    refine (((s0.setC ((((w1.le l2).le l3).le l4).le lv) ap1).setC (((w2.le l3).le l4).le lv) fun hM => apt_set (ap2 hM) fun hMi => ne w1 w2 (Same.refl _) hMi hM).setC ((w3.le l4).le lv) fun hM => apt_set (apt_set (ap3 hM) fun hMi => ne w1 w3 l2.g hMi hM) fun hMi => ne w2 w3 (Same.refl _) hMi hM).setC (w4.le lv) fun hM => ?_
    exact apt_set (apt_set (apt_set (ap4 hM) fun hMi => ne w1 w4 (l2.trans l3).g hMi hM) fun hMi => ne w2 w4 l3.g hMi hM) fun hMi => ne w3 w4 (Same.refl _) hMi hM
end
@[simp ↓] theorem a_spr4 {i k l n : Nat} {fa fb fc fd : Ev J} {m : Sd} {j : J} {PS : Fl → Sd → J → Prop} {E : XP J} : sPr4 i k l n fa fb fc fd m j PS E = fa m j (fun x j1 => fb m j1 (fun y j2 => fc m j2 (fun z j3 => fd m j3 (fun u j4 => PS .next ((((m.set i (some x)).set k (some y)).set l (some z)).set n (some u)) j4) E) E) E) E := rfl
end Mp

/-! OC: is True, is not False. -/
namespace Mp
open PySem PySem.Spec L2
variable {J : Type}
def isBD : D → D → Option D
  | .bl a, .bl b => some (.bl (decide (a = b)))
  | _, _ => none
def notBD : D → D → Option D
  | .bl a, .bl b => some (.bl (!decide (a = b)))
  | _, _ => none
@[simp] theorem isB_i {a b : Bool} : isBD (.bl a) (.bl b) = some (.bl (decide (a = b))) := rfl
@[simp] theorem notB_i {a b : Bool} : notBD (.bl a) (.bl b) = some (.bl (!decide (a = b))) := rfl
theorem s_isB {S : Js J} {ci : Bool} : OpS S rIsB isBD ci .clean := by
  intro B g H j d1 d2 d v1 v2 Q ok h1 h2 e q
  unfold isBD at e
  split at e
  · cases e
    cases h1
    cases h2
    exact ⟨_, _, rfl, rfl, ans (B := B) ok q fun _ => .bl _⟩
  · cases e
theorem s_notB {S : Js J} {ci : Bool} : OpS S rNotB notBD ci .clean := by
  intro B g H j d1 d2 d v1 v2 Q ok h1 h2 e q
  unfold notBD at e
  split at e
  · cases e
    cases h1
    cases h2
    exact ⟨_, _, rfl, rfl, ans (B := B) ok q fun _ => .bl _⟩
  · cases e
end Mp

/-! OE: xs.count(v) of a list of ints or of truths; an owned list + a list. -/
namespace Mp
open PySem PySem.Spec L2
open PyProof.Rows hiding St
variable {J : Type}
def countD : D → D → Option D
  | .lst xs, .int k => match ints? xs with
    | some ns => some (.int (ns.count k : Nat))
    | none => none
  | .lst xs, .bl b => match bls? xs with
    | some bs => some (.int (bs.count b : Nat))
    | none => none
  | _, _ => none
theorem bls_of_vals : ∀ {bs : List Bool} {us : List Value}, Vals (bs.map V.bl) us → us = bs.map Value.bool
  | [], us, r => by
    rw [List.map_nil] at r
    cases r
    rfl
  | b :: bs, us, r => by
    rw [List.map_cons] at r
    cases r with
    | cons r1 r2 =>
      have e : _ = Value.bool b := r1
      rw [List.map_cons, ← bls_of_vals r2, e]
def beqk (b : Bool) (v : Value) : Bool := match v with
  | .bool c => c == b
  | _ => false
theorem beqk_count {b : Bool} : ∀ {bs : List Bool}, (bs.map Value.bool).countP (beqk b) = bs.count b
  | [] => rfl
  | c :: bs => by
    rw [List.map_cons, List.countP_cons, List.count_cons, beqk_count]; rfl
def rCntB (K : PySem.W.Frag) : V → List V → Hp → VK → Prop := fun x xs H Q => ∃ (p : Addr) (bs : List Bool) (b : Bool), x = .ref p ∧ xs = [.bl b] ∧ SqL K H p (bs.map V.bl) ∧ Q (.int (bs.count b : Nat)) H
section
variable {X : Cx}
theorem mt_lcntB : MtR X "list.count" (rCntB X.K) := by
  intro pins s σ H x xs v us Q I rx rxs h
  obtain ⟨p, bs, b, rfl, rfl, hs, q⟩ := h
  cases rx
  obtain ⟨u, rfl, ru⟩ := rxs.one
  have eu : u = Value.bool b := ru
  subst eu
  obtain ⟨its, rv, ⟨⟨cls, dd, data, sl⟩, n, ho, hc, hdn, hd⟩, hlen⟩ := I.list hs
  simp only at hc hd
  subst hc hd
  have hi := bls_of_vals rv
  subst hi
  refine call_meets PySem.F.slot_list_count ⟨_, ho, rfl⟩ PySem.F.entry_list_count (PySem.F.args_list_count_2 _ _)
    (SeqAt.list_countAt p (bs.map Value.bool).toArray n dd sl (.bool b) (beqk b)) ⟨ho, fun y hy => ?_, ?_⟩
  · have hy : y ∈ bs.map Value.bool := by simpa using hy
    obtain ⟨c, hc, rfl⟩ := List.mem_map.mp hy
    exact SeqAt.EqAt.bool_bool c b
  have ec : (bs.map Value.bool).toArray.toList.countP (beqk b) = bs.count b := beqk_count
  refine ⟨.int (bs.count b : Nat), H, I.tok _, ⟨s.toks, ?_⟩, q⟩
  show Value.int (((bs.map Value.bool).toArray.toList.countP (beqk b) : Nat) : Int) s.toks = Value.int ((bs.count b : Nat) : Int) s.toks
  rw [ec]
theorem mt_lcnt : MtR X "list.count" (fun x xs H Q => rCntI X.K x xs H Q ∨ rCntB X.K x xs H Q) := by
  intro pins s σ H x xs v us Q I rx rxs h
  rcases h with h | h
  · exact mt_lcount pins s σ H x xs v us Q I rx rxs h
  · exact mt_lcntB pins s σ H x xs v us Q I rx rxs h
end
def isLs : D → Prop
  | .lst _ => True
  | _ => False
def eMtL (φ : D → D → Option D) (fo fe : Ev J) (m : Sd) (j : J) (P : D → J → Prop) (E : XP J) : Prop := fo m j (fun x j1 => isLs x ∧ fe m j1 (fun y j2 => ∃ z, φ x y = some z ∧ P z j2) E) E
instance {φ : D → D → Option D} {fo fe : Ev J} [h1 : MoE fo] [h2 : MoE fe] : MoE (eMtL φ fo fe) := ⟨fun p q x => h1.mo p (fun _ _ ⟨l, p⟩ => ⟨l, h2.mo p (fun _ _ ⟨z, e, p⟩ => ⟨z, e, q _ _ p⟩) x⟩) x⟩
section
variable {S : Js J} {B : Bs} {M : Nat → Bool} {W : WX} {X : Cx} {e o b : Expr} {x : Str} {pos p apos : Pos} {fo fe fb : Ev J}
theorem cntE (hK : X.K = S.K) (ho : PE X o (rdE S B M W .mix fo)) (he : PE X e (rdE S B M W .mix fe)) (hl : (apos.endLine == p.line) = true := by rfl) (hs : starEach [e] X.env = [(false, eval e X.env)] := by rfl) (hb : attributeBase o "count" X.env (eval o X.env) = eval o X.env := by rfl)
    (hf : ((backTo p (starEach [e] X.env)).all (fun x => !x.1) && (backToKw p (keywordEach [] X.env)).all (fun x => x.1.isSome)
      && decide (([e] : List Expr).length + ([] : List Keyword).length + (if ([] : List Keyword).isEmpty then 0 else 1) < 30)) = true := by rfl) :
    PE X (.Call (.Attribute o "count" apos) [e] [] p) (rdE S B M W .clean (eMtL countD fo fe)) :=
  PE.imp (pe_bm PySem.F.plainAttrs_list PySem.F.slot_list_count PySem.F.type_list_count mt_lcnt ho (pa_cons he pa_nil hs) hb hf hl hs rfl) fun R H Q ⟨g, m, j, P, E, ok, hf, q, xo⟩ => by
    refine ⟨g, m, j, _, E, ok, hf, fun x j1 g1 v H1 hh l1 ok1 w => ?_, xo⟩
    obtain ⟨hx, h2⟩ := hh
    cases x with
    | lst xs =>
      obtain ⟨a, vs, rfl, ha, rl⟩ := lst_of (w.mix ok1.b.fg)
      refine ⟨.inl ⟨rfl, _, .of (ok1.b.gh _ _ ha)⟩, g1, m, _, _, E, ok1, h2, fun y j2 g2 v2 H2 hz l2 ok2 w2 => ?_, xo.le l1.f⟩
      obtain ⟨z, h3, p⟩ := hz
      cases y with
      | int k =>
        unfold countD at h3
        simp only at h3
        split at h3
        · rename_i ns hn
          cases h3
          have e1 := ints?_some hn
          subst e1
          have hv := RpL.of_ints rl
          subst hv
          exact .inl ⟨a, ns, k, rfl, by rw [int_of w2], .of (ok2.b.gh _ _ (l2.g _ _ ha)), q _ _ g2 _ H2 p (l1.trans l2) ok2 (.int _)⟩
        · cases h3
      | bl k =>
        unfold countD at h3
        simp only at h3
        split at h3
        · rename_i ns hn
          cases h3
          have e1 := bls?_some hn
          subst e1
          have hv := RpL.of_bls rl
          subst hv
          exact .inr ⟨a, ns, k, rfl, by rw [bl_of w2], .of (ok2.b.gh _ _ (l2.g _ _ ha)), q _ _ g2 _ H2 p (l1.trans l2) ok2 (.int _)⟩
        · cases h3
      | _ => cases h3
    | _ => exact hx.elim
/-- an owned list and a list: a new list -/
theorem adO {i : Nat} {np : Pos} (hb : PE X b (rdE S B M W .clean fb)) (hx : MtN X i x := by exact mtN _) (hM : M i = true := by rfl) : PE X (.BinOp (.Name x np) .Add b pos) (rdE S B M W .fresh (eOp addL (eVar i) fb)) :=
  PE.imp (pe_op op_cat hx.pe hb) fun R H Q ⟨g, m, j, P, E, ok, ⟨d0, h0, hf⟩, q, xo⟩ => by
    obtain ⟨a, hr, ho⟩ := ok.s.ow i _ h0 hM
    refine ⟨_, hr, g, m, j, _, E, ok, hf, fun y j2 g1 v H1 hh l1 ok1 w => ?_, xo⟩
    obtain ⟨z, h3, p⟩ := hh
    unfold addL at h3
    split at h3
    · split at h3
      · rename_i xs ys hl
        cases h3
        obtain ⟨_, vs, hG, t⟩ := own_lst (ho.le l1)
        obtain ⟨c, ws, rfl, hc, rb⟩ := lst_of (rp_hp (k := true) w)
        refine ⟨a, c, vs, ws, rfl, rfl, ok1.b.gh _ _ hG, ok1.b.sub true _ _ hc, ?_, fun pp hp => ?_⟩
        · rw [← t.length, ← rb.length]; exact Nat.le_trans hl line_ok
        · obtain ⟨n1, n2, n3, n4⟩ := ok1.b.hn hp
          refine q _ _ (g1.see pp (.lst (vs ++ ws))) _ _ p (l1.trans (Le.see n2)) ⟨ok1.b.see _ hp, ok1.s.le (Le.see n2)⟩ ⟨pp, rfl, l1.g.free n2, n1, .inl ⟨_, _, rfl, upd_same, ?_⟩⟩
          exact t.append rb
      · cases h3
    · cases h3
end
@[simp] theorem addL_l {xs ys : List D} : addL (.lst xs) (.lst ys) = if xs.length + ys.length ≤ LINE then some (.lst (xs ++ ys)) else none := rfl
end Mp

/-! OG: t.count(k), t a tuple of ints. -/
namespace Mp
open PySem PySem.Spec L2
open PyProof.Rows hiding St
variable {J : Type}
def countT : D → D → Option D
  | .tup xs, .int k => match ints? xs with
    | some ns => some (.int (ns.count k : Nat))
    | none => none
  | _, _ => none
def rCntT (K : PySem.W.Frag) : V → List V → Hp → VK → Prop := fun x xs H Q => ∃ (p : Addr) (ns : List Int) (k : Int), x = .ref p ∧ xs = [.int k] ∧ SqT K H p (ns.map V.int) ∧ Q (.int (ns.count k : Nat)) H
section
variable {X : Cx}
theorem mt_tcnt : MtR X "tuple.count" (rCntT X.K) := by
  intro pins s σ H x xs v us Q I rx rxs h
  obtain ⟨p, ns, k, rfl, rfl, hs, q⟩ := h
  cases rx
  obtain ⟨u, rfl, ru⟩ := rxs.one
  obtain ⟨t, rfl⟩ := ru
  obtain ⟨its, rv, ⟨⟨cls, dd, data, sl⟩, ho, hc, n, hd⟩, _⟩ := I.tuple hs
  simp only at hc hd
  subst hc hd
  have hi := ints_of_vals rv
  refine call_meets PySem.F.slot_tuple_count ⟨_, ho, rfl⟩ PySem.F.entry_tuple_count (PySem.F.args_tuple_count_2 _ _)
    (SeqAt.tuple_countAt p its.toArray n dd sl (.int k t) (eqk k)) ⟨ho, fun y hy => (eqk_gives hi y (by simpa using hy)).at _ _, ?_⟩
  have ec : its.toArray.toList.countP (eqk k) = ns.count k := eqk_count hi
  refine ⟨.int (ns.count k : Nat), H, I.tok _, ⟨s.toks, ?_⟩, q⟩
  show Value.int ((its.toArray.toList.countP (eqk k) : Nat) : Int) s.toks = Value.int ((ns.count k : Nat) : Int) s.toks
  rw [ec]
end
def cntD : D → D → Option D
  | .tup xs, .int k => match ints? xs with
    | some ns => some (.int (ns.count k : Nat))
    | none => none
  | x, y => countD x y
section
variable {S : Js J} {B : Bs} {M : Nat → Bool} {W : WX} {X : Cx} {e o b : Expr} {x : Str} {pos p apos : Pos} {fo fe fb : Ev J}
theorem cntA (hK : X.K = S.K) (ho : PE X o (rdE S B M W .mix fo)) (he : PE X e (rdE S B M W .mix fe)) (hl : (apos.endLine == p.line) = true := by rfl) (hs : starEach [e] X.env = [(false, eval e X.env)] := by rfl) (hb : attributeBase o "count" X.env (eval o X.env) = eval o X.env := by rfl)
    (hf : ((backTo p (starEach [e] X.env)).all (fun x => !x.1) && (backToKw p (keywordEach [] X.env)).all (fun x => x.1.isSome)
      && decide (([e] : List Expr).length + ([] : List Keyword).length + (if ([] : List Keyword).isEmpty then 0 else 1) < 30)) = true := by rfl) :
    PE X (.Call (.Attribute o "count" apos) [e] [] p) (rdE S B M W .clean (eMt cntD fo fe)) :=
  PE.imp (pe_bmS PySem.F.slot_list_count PySem.F.type_list_count mt_lcnt PySem.F.slot_tuple_count PySem.F.type_tuple_count mt_tcnt ho (pa_cons he pa_nil hs) hb hf hl hs rfl) fun R H Q ⟨g, m, j, P, E, ok, hf, q, xo⟩ => by
    refine ⟨g, m, j, _, E, ok, hf, fun x j1 g1 v H1 hh l1 ok1 w => ?_, xo⟩
    obtain ⟨hx, h2⟩ := hh
    cases x with
    | lst xs =>
      obtain ⟨a, vs, rfl, ha, rl⟩ := lst_of (w.mix ok1.b.fg)
      refine .inl ⟨.inl ⟨rfl, _, .of (ok1.b.gh _ _ ha)⟩, g1, m, _, _, E, ok1, h2, fun y j2 g2 v2 H2 hz l2 ok2 w2 => ?_, xo.le l1.f⟩
      obtain ⟨z, h3, p⟩ := hz
      cases y with
      | int k =>
        have h3 : countD (.lst xs) (.int k) = some z := h3
        unfold countD at h3
        simp only at h3
        split at h3
        · rename_i ns hn
          cases h3
          have e1 := ints?_some hn
          subst e1
          have hv := RpL.of_ints rl
          subst hv
          exact .inl ⟨a, ns, k, rfl, by rw [int_of w2], .of (ok2.b.gh _ _ (l2.g _ _ ha)), q _ _ g2 _ H2 p (l1.trans l2) ok2 (.int _)⟩
        · cases h3
      | bl k =>
        have h3 : countD (.lst xs) (.bl k) = some z := h3
        unfold countD at h3
        simp only at h3
        split at h3
        · rename_i ns hn
          cases h3
          have e1 := bls?_some hn
          subst e1
          have hv := RpL.of_bls rl
          subst hv
          exact .inr ⟨a, ns, k, rfl, by rw [bl_of w2], .of (ok2.b.gh _ _ (l2.g _ _ ha)), q _ _ g2 _ H2 p (l1.trans l2) ok2 (.int _)⟩
        · cases h3
      | _ => cases h3
    | tup xs =>
      obtain ⟨a, vs, rfl, ha, rl⟩ := tup_of (w.mix ok1.b.fg)
      refine .inr ⟨⟨a, _, rfl, by rw [hK]; exact ha.same ok1.b.gh⟩, g1, m, _, _, E, ok1, h2, fun y j2 g2 v2 H2 hz l2 ok2 w2 => ?_, xo.le l1.f⟩
      obtain ⟨z, h3, p⟩ := hz
      cases y with
      | int k =>
        unfold cntD at h3
        simp only at h3
        split at h3
        · rename_i ns hn
          cases h3
          have e1 := ints?_some hn
          subst e1
          have hv := RpL.of_ints rl
          subst hv
          exact ⟨a, ns, k, rfl, by rw [int_of w2], by rw [hK]; exact (ha.same (l2.g.trans ok2.b.gh)).t, q _ _ g2 _ H2 p (l1.trans l2) ok2 (.int _)⟩
        · cases h3
      | _ => cases h3
    | _ => exact hx.elim
end
end Mp

/-! OH: a def with one keyword-only parameter, an int by default. -/
namespace Mp
open PySem PySem.Spec L2
open PyProof.Rows hiding St
variable {J : Type}
/-- f(e, .., k=v): the value is the last argument -/
def eCallK (φ : Fv J) (fa : Av J) (fk : Ev J) (m : Sd) (j : J) (P : D → J → Prop) (E : XP J) : Prop := fa m j (fun xs j1 => fk m j1 (fun y j2 => φ (xs ++ [y]) j2 P (fun e j' => E e m j')) E) E
/-- f(e, ..), k by default -/
def eCallD (φ : Fv J) (dv : D) (fa : Av J) (m : Sd) (j : J) (P : D → J → Prop) (E : XP J) : Prop := fa m j (fun xs j1 => φ (xs ++ [dv]) j1 P (fun e j' => E e m j')) E
instance {φ : Fv J} {fa : Av J} {fk : Ev J} [hf : MoF φ] [ha : MoA fa] [hk : MoE fk] : MoE (eCallK φ fa fk) := ⟨fun h q x => ha.mo h (fun _ _ p => hk.mo p (fun _ _ p => hf.mo p q fun _ _ => x _ _ _) x) x⟩
instance {φ : Fv J} {fa : Av J} {dv : D} [hf : MoF φ] [ha : MoA fa] : MoE (eCallD φ dv fa) := ⟨fun h q x => ha.mo h (fun _ _ p => hf.mo p q fun _ _ => x _ _ _) x⟩
/-- a default: None, a truth or an int -/
def dvV : D → V
  | .int i => .int i
  | .bl b => .bl b
  | _ => .non
def dvB : D → Bool
  | .int _ => true
  | .bl _ => true
  | .non => true
  | _ => false
theorem dvR {S : Js J} {F : Hp} {d : D} (h : dvB d = true) : Rp S F d (dvV d) := by
  cases d <;> first | (cases h; done) | constructor
/-- a def with n parameters and the keyword kw, by default dv -/
structure CalK (S : Js J) (P : Program) (w : World) (mg : Str → Option Value) (base : Heap) (k : Nat) (x : Str) (n : Nat) (kw : Str) (dv : D) (φ : Fv J) : Prop where
  ex : ∃ fn fd ps ds, FnG P w S.K mg base (L2.CX P w) k fn fd ps (spF S (n + 1) φ) ∧ mg x = some (.ref fn) ∧ PySem.W.keepIn S.K (.ref fn) = true ∧ Vals [dvV dv] ds ∧ Binds S.K fd ps ds ∧ ps.length = n + 1 ∧
    ∀ (s : Shared) (us ws : List Value), S.K.In s.heap → us.length = n → ws.length = 1 → BindsTo s fd ⟨us, [kw].zip ws⟩ (ps.zip (us ++ ws))
  ln : ∀ ds j P E, φ ds j P E → ds.length = n + 1
  cd : dvB dv = true
section
variable {X : Cx} {CX : CXT} {k n : Nat} {f : Addr} {fd : FuncData} {ps : List Str} {sp : Sp} {E : St → XK} {x kw : Str} {p pos : Pos} {e : Expr} {es : List Expr} {kws : List Keyword} {t tk : TA} {dvs : List V} {ds : List Value}
def tCallKS (n : Nat) (sp : Sp) (E : St → XK) (t tk : TA) : TE := fun σ H Q => t σ H fun vs H1 => tk σ H1 fun zs H2 => vs.length = n ∧ zs.length = 1 ∧ sp (vs ++ zs) H2 Q (E σ)
def tCallDS (sp : Sp) (dvs : List V) (E : St → XK) (t : TA) : TE := fun σ H Q => t σ H fun vs H1 => sp (vs ++ dvs) H1 Q (E σ)
theorem after_call {pins : List (Addr × Obj)} {σ : St} {H : Hp} {s : Shared} {Q : VK} {EE : XK} {g : Value} {args : Args} (hx : PassesAt CX X σ EE) (I : Inv X pins σ H s)
    (h : codeAny (model X.prog X.w) X.A (.call g args) (CR CX X.stack X.prog X.w H s Q EE) s) : wpAny (model X.prog X.w) X.A (call g args.pos args.kw) (EP X pins σ Q) X.xe s := by
  refine wpAny_call (codeAny_mono h fun r s' hq => ?_)
  cases r with
  | error e => exact hx pins H s e s' I hq
  | ok fl =>
    cases fl with
    | ret u => exact I.after hq
    | next => exact False.elim hq
    | brk => exact False.elim hq
    | cont => exact False.elim hq
theorem pe_callKS (F : FnG X.prog X.w X.K X.mg X.base CX k f fd ps sp) (hr : Room k X.A) (hgd : X.A.guards = some []) (hg : Gl X x) (hm : X.mg x = some (.ref f)) (hk : PySem.W.keepIn X.K (.ref f) = true)
    (hb : ∀ (s : Shared) (us ws : List Value), X.K.In s.heap → us.length = n → ws.length = 1 → BindsTo s fd ⟨us, [kw].zip ws⟩ (ps.zip (us ++ ws))) (hx : ∀ σ, PassesAt CX X σ (E σ))
    (ha : PA X (e :: es) t) (hkw : PK X kws tk) (hall : (backToKw pos (keywordEach kws X.env)).all (·.1.isSome) = true) (hks : (backToKw pos (keywordEach kws X.env)).filterMap (·.1) = [kw]) (hdb : (x == ("__debug__" : Str)) = false) (he : starEach (e :: es) X.env = (false, eval e X.env) :: starEach es X.env)
    (hpl : ((backTo pos (starEach (e :: es) X.env)).any (·.1) || (backToKw pos (keywordEach kws X.env)).any (·.1.isNone)) = false) : PE X (.Call (.Name x p) (e :: es) kws pos) (tCallKS n sp E t tk) := by
  refine ⟨fun pins s σ H Q I h => ?_⟩
  refine wpAny_Call_Name_kw (ld_glob I hg hm ?_ hdb)
  refine PySem.W.callWith_KW (h₀ := X.base) I.ok.mod.kin hk hall (thn (ha.run pos pins s σ H _ I h) fun us s1 ⟨vs, H1, I1, r, q⟩ => ?_) hpl he
  refine thn (hkw.run pos pins s1 σ H1 _ I1 q) fun ws s2 ⟨zs, H2, I2, rz, l1, l2, q2⟩ => ⟨I2.kIn, ?_⟩
  rw [hks]
  exact after_call (args := ⟨us, [kw].zip ws⟩) (hx σ) I2 (F.run X.A X.stack s2 H2 ⟨us, [kw].zip ws⟩ (us ++ ws) (vs ++ zs) Q (E σ) hr hgd I2.env0 (hb s2 us ws I2.kIn (r.length.symm.trans l1) (rz.length.symm.trans l2)) (r.append rz) q2)
theorem pe_callDS (F : FnG X.prog X.w X.K X.mg X.base CX k f fd ps sp) (hr : Room k X.A) (hgd : X.A.guards = some []) (hg : Gl X x) (hm : X.mg x = some (.ref f)) (hk : PySem.W.keepIn X.K (.ref f) = true) (hb : Binds X.K fd ps ds) (hd : Vals dvs ds) (hx : ∀ σ, PassesAt CX X σ (E σ))
    (ha : PA X (e :: es) t) (hdb : (x == ("__debug__" : Str)) = false) (he : starEach (e :: es) X.env = (false, eval e X.env) :: starEach es X.env) (hpl : (backTo pos (starEach es X.env)).any (·.1) = false) : PE X (.Call (.Name x p) (e :: es) [] pos) (tCallDS sp dvs E t) := by
  refine ⟨fun pins s σ H Q I h => ?_⟩
  refine wpAny_Call_Name_kw (ld_glob I hg hm ?_ hdb)
  refine PySem.W.callWith_K (h₀ := X.base) I.ok.mod.kin hk (thn (ha.run pos pins s σ H _ I h) fun us s1 ⟨vs, H1, I1, r, q⟩ => ⟨I1.kIn, ?_⟩) he hpl
  have r2 : Vals (vs ++ dvs) (us ++ ds) := r.append hd
  have hl : (us ++ ds).length = ps.length := by rw [← r2.length]; exact F.len _ _ _ _ q
  exact after_call (args := ⟨us, []⟩) (hx σ) I1 (F.run X.A X.stack s1 H1 ⟨us, []⟩ (us ++ ds) (vs ++ dvs) Q (E σ) hr hgd I1.env0 (hb s1 us I1.kIn hl) r2 q)
end
section
variable {S : Js J} {B : Bs} {M : Nat → Bool} {W : WX} {X : Cx} {e ke : Expr} {es : List Expr} {pos p kpos : Pos} {fr : Av J} {fk : Ev J} {x kw : Str} {φ : Fv J} {k n : Nat} {dv : D}
theorem callK (hK : X.K = S.K) (tk : Takes X W) (C : CalK S X.prog X.w X.mg X.base k x n kw dv φ) (hr : Room k X.A) (hgd : X.A.guards = some []) (ha : PA X (e :: es) (rdA S B M W true fr)) (hk : PE X ke (rdE S B M W .clean fk)) (hg : Gl X x := by rfl) (hdb : (x == ("__debug__" : Str)) = false := by decide)
    (hall : (backToKw pos (keywordEach [⟨some kw, ke, kpos⟩] X.env)).all (·.1.isSome) = true := by rfl) (hks : (backToKw pos (keywordEach [⟨some kw, ke, kpos⟩] X.env)).filterMap (·.1) = [kw] := by rfl) (he : starEach (e :: es) X.env = (false, eval e X.env) :: starEach es X.env := by rfl)
    (hpl : ((backTo pos (starEach (e :: es) X.env)).any (·.1) || (backToKw pos (keywordEach [⟨some kw, ke, kpos⟩] X.env)).any (·.1.isNone)) = false := by rfl) :
    PE X (.Call (.Name x p) (e :: es) [⟨some kw, ke, kpos⟩] pos) (rdE S B M W .clean (eCallK φ fr fk)) := by
  obtain ⟨fn, fd, ps, ds, F, h1, h2, h3, h4, h5, h6⟩ := C.ex
  refine PE.imp (pe_callKS (n := n) (hK ▸ F) hr hgd hg h1 (hK ▸ h2) (hK ▸ h6) (passAt tk) ha (pk_cons hk pk_nil) hall hks hdb he hpl) fun R H Q ⟨g, m, j, P, E, ok, hf, q, xo⟩ => ?_
  refine ⟨g, m, j, _, E, ok, hf, fun xs j1 g1 vs H1 p1 l1 ok1 w1 => ?_, xo⟩
  refine ⟨g1, m, j1, _, E, ok1, p1, fun y j2 g2 v H2 p2 l2 ok2 w2 => ?_, xo.le l1.f⟩
  have w1' : RpL S g2.F xs vs := RpL.mono l2.f w1
  have w3 : RpL S g2.F (xs ++ [y]) (vs ++ [v]) := w1'.append (.cons w2 .nil)
  have hl := C.ln _ _ _ _ p2
  refine ⟨?_, rfl, ?_⟩
  · rw [← w1.length]; simp at hl; exact hl
  · refine ⟨g2.F, g2.A, j2, xs ++ [y], P, _, ok2.b.fg.trans ok2.b.gh, fun b o e => ok2.b.ga b o (ok2.b.fg b o e), ok2.b.jr, ok2.b.sm, w3, hl, p2, fun d j' F' A' H' v pd pp rv => ?_, fun e j' F' A' H' cls dx pe pp rv => ?_⟩
    · obtain ⟨l3, ok3⟩ := post_clean ok2.b pp
      exact q d j' _ v H' pd ((l1.trans l2).trans l3) ⟨ok3, ok2.s.le l3⟩ rv
    · obtain ⟨l3, ok3⟩ := post_clean ok2.b pp
      exact xo e m j' _ R H' cls dx pe ((l1.trans l2).trans l3).f ⟨ok3, ok2.s.le l3⟩ rv
theorem callD (hK : X.K = S.K) (tk : Takes X W) (C : CalK S X.prog X.w X.mg X.base k x n kw dv φ) (hr : Room k X.A) (hgd : X.A.guards = some []) (ha : PA X (e :: es) (rdA S B M W true fr)) (hg : Gl X x := by rfl) (hdb : (x == ("__debug__" : Str)) = false := by decide)
    (he : starEach (e :: es) X.env = (false, eval e X.env) :: starEach es X.env := by rfl) (hpl : (backTo pos (starEach es X.env)).any (·.1) = false := by rfl) :
    PE X (.Call (.Name x p) (e :: es) [] pos) (rdE S B M W .clean (eCallD φ dv fr)) := by
  obtain ⟨fn, fd, ps, ds, F, h1, h2, h3, h4, h5, h6⟩ := C.ex
  refine PE.imp (pe_callDS (hK ▸ F) hr hgd hg h1 (hK ▸ h2) (hK ▸ h4) h3 (passAt tk) ha hdb he hpl) fun R H Q ⟨g, m, j, P, E, ok, hf, q, xo⟩ => ?_
  refine ⟨g, m, j, _, E, ok, hf, fun xs j1 g1 vs H1 p1 l1 ok1 w1 => ?_, xo⟩
  have w3 : RpL S g1.F (xs ++ [dv]) (vs ++ [dvV dv]) := RpL.append w1 (.cons (dvR C.cd) .nil)
  refine ⟨g1.F, g1.A, j1, xs ++ [dv], P, _, ok1.b.fg.trans ok1.b.gh, fun b o e => ok1.b.ga b o (ok1.b.fg b o e), ok1.b.jr, ok1.b.sm, w3, C.ln _ _ _ _ p1, p1, fun d j' F' A' H' v pd pp rv => ?_, fun e j' F' A' H' cls dx pe pp rv => ?_⟩
  · obtain ⟨l2, ok2⟩ := post_clean ok1.b pp
    exact q d j' _ v H' pd (l1.trans l2) ⟨ok2, ok1.s.le l2⟩ rv
  · obtain ⟨l2, ok2⟩ := post_clean ok1.b pp
    exact xo e m j' _ R H' cls dx pe (l1.trans l2).f ⟨ok2, ok1.s.le l2⟩ rv
end
theorem binds_kw {K : PySem.W.Frag} {x qual : Str} {st : Stmt} {f : Addr} {dc pm cd ct oc : Value} {an od : Option Addr} {sl : Array (Option Value)} {ps : List Str} {n : Nat} {kw : Str} {dv : V} {val : Value} {KD : Addr} (lk : K.lookup f = some ⟨oc, od, .func (PySem.W.fnOf x qual (defArgs st) (defBody st) (defScope st) .none (.ref KD) dc pm an cd ct), sl⟩) (hc : PySem.W.codeIn K cd qual = true) (kp : PySem.W.keepIn K (.ref f) = true) (hd : PySem.W.nsIn K KD kw = some (some val)) (hr : RelV dv val) (hn : n + 1 = ps.length)
    (h : ∀ (D : Addr) (doc pm : Value) (an : Option Addr) (cdv ct : Value) (us ks : List Value), us.length = n → ks.length = 1 → KwChain D ([kw].zip ks) (bindArgs (PySem.W.fnOf x qual (defArgs st) (defBody st) (defScope st) .none (.ref D) doc pm an cdv ct) ⟨us, []⟩) (ps.zip (us ++ ks))) :
    ∃ ds, Vals [dv] ds ∧ Binds K (PySem.W.fnOf x qual (defArgs st) (defBody st) (defScope st) .none (.ref KD) dc pm an cd ct) ps ds :=
  FunD.binds0 (kws := [(kw, dv)]) (f := f) ⟨⟨_, _, _, _, _, _, _, _, _, _, rfl, lk, hc, .inl ⟨rfl, rfl⟩, .inr ⟨KD, rfl, fun q hq => by
    simp at hq; subst hq; exact ⟨_, hd, hr⟩⟩⟩, kp⟩ n (by simp) (by simpa using hn) h
/-! ### a slot that owns something from here on -/
def onlyR (P : Fl → Sd → J → Prop) : Fl → Sd → J → Prop
  | .ret d, m, j => P (.ret d) m j
  | _, _, _ => False
def sSw (i : Nat) (f : Sv J) (m : Sd) (j : J) (P : Fl → Sd → J → Prop) (E : XP J) : Prop := f (m.set i none) j (onlyR P) xNo
theorem onlyR_mo {P P' : Fl → Sd → J → Prop} (q : ∀ l m j, P l m j → P' l m j) : ∀ l m j, onlyR P l m j → onlyR P' l m j
  | .ret _, _, _, h => q _ _ _ h
  | .next, _, _, h => h
  | .brk, _, _, h => h
  | .cnt, _, _, h => h
instance {i : Nat} {f : Sv J} [h1 : MoS f] : MoS (sSw i f) := ⟨fun h q x => h1.mo h (onlyR_mo q) fun _ _ _ z => z⟩
theorem zSw {S : Js J} {B : Bs} {M M1 : Nat → Bool} {W : WX} {X : Cx} {ss : List Stmt} {f : Sv J} (i : Nat) (h : PSs X ss (rdS S B M1 W f)) (hM : ∀ k, M1 k = (M k || Nat.beq k i) := by intro k; rfl) : PSs X ss (rdS S B M W (sSw i f)) :=
  PSs.imp h fun En r H ⟨g, m, j, P, Ep, ok, hf, q, xo⟩ => by
    have ne : ∀ {k : Nat} {d : D}, (m.set i none)[k]? = some (some d) → k ≠ i ∧ m[k]? = some (some d) := fun {k d} e => by
      by_cases hk : k = i
      · subst hk
        by_cases hl : k < m.length
        · rw [List.getElem?_set_self hl] at e; cases e
        · rw [List.getElem?_eq_none (by simpa using hl)] at e; cases e
      · rw [List.getElem?_set_ne (Ne.symm hk)] at e
        exact ⟨hk, e⟩
    have eM : ∀ {k : Nat}, k ≠ i → M1 k = M k := fun {k} hk => by
      rw [hM k]
      have : Nat.beq k i = false := by
        cases hb : Nat.beq k i with
        | false => rfl
        | true => exact absurd (Nat.eq_of_beq_eq_true hb) hk
      rw [this, Bool.or_false]
    refine ⟨g, m.set i none, j, _, _, ⟨ok.b, ⟨by rw [ok.s.len, List.length_set], fun k d e z => ?_, fun k d e z => ?_, fun k l a d d' e1 e2 z1 z2 r1 r2 => ?_⟩⟩, hf, fun fl m' j' p => ?_, XOut.no⟩
    · obtain ⟨hk, e⟩ := ne e
      exact ok.s.fr k d e (by rw [← eM hk]; exact z)
    · obtain ⟨hk, e⟩ := ne e
      exact ok.s.ow k d e (by rw [← eM hk]; exact z)
    · obtain ⟨hk, e1⟩ := ne e1
      obtain ⟨hl, e2⟩ := ne e2
      exact ok.s.dj k l a d d' e1 e2 (by rw [← eM hk]; exact z1) (by rw [← eM hl]; exact z2) r1 r2
    · cases fl with
      | ret d => exact q _ _ _ p
      | next => exact False.elim p
      | brk => exact False.elim p
      | cnt => exact False.elim p
@[simp ↓] theorem a_callk {φ : Fv J} {fa : Av J} {fk : Ev J} {m : Sd} {j : J} {P : D → J → Prop} {E : XP J} : eCallK φ fa fk m j P E = fa m j (fun xs j1 => fk m j1 (fun y j2 => WF φ (xs ++ [y]) j2 P (fun e j' => E e m j')) E) E := rfl
@[simp ↓] theorem a_calld {φ : Fv J} {fa : Av J} {dv : D} {m : Sd} {j : J} {P : D → J → Prop} {E : XP J} : eCallD φ dv fa m j P E = fa m j (fun xs j1 => WF φ (xs ++ [dv]) j1 P (fun e j' => E e m j')) E := rfl
@[simp ↓] theorem a_sw {i : Nat} {f : Sv J} {m : Sd} {j : J} {P : Fl → Sd → J → Prop} {E : XP J} : sSw i f m j P E = f (m.set i none) j (onlyR P) xNo := rfl
@[simp] theorem onlyR_r {P : Fl → Sd → J → Prop} {d : D} {m : Sd} {j : J} : onlyR P (.ret d) m j = P (.ret d) m j := rfl
end Mp

/-! OI: isinstance(x, (T, U)) of built-in types; defs that call themselves. -/
namespace Mp
open PySem PySem.Spec L2
open PyProof.Rows hiding St
variable {J : Type}
def isi2D (T U : String) (d : D) : Option D := match tyD d with
  | some t => match kitB t T, kitB t U with | some b, some c => some (.bl (b || c)) | _, _ => none
  | none => none
theorem kit_any2 {K : PySem.W.Frag} {t T U : String} {b c : Bool} (h1 : kitB t T = some b) (h2 : kitB t U = some c) : PySem.W.kitAny K (.type t) [.type T, .type U] = some (b || c) := by
  unfold PySem.W.kitAny
  rw [kit_ty h1]
  cases b with
  | true => rfl
  | false =>
    show PySem.W.kitAny K (.type t) [.type U] = _
    unfold PySem.W.kitAny
    rw [kit_ty h2]
    cases c <;> rfl
section
variable {S : Js J} {B : Bs} {M : Nat → Bool} {W : WX} {X : Cx} {e : Expr} {pos p p2 p3 pt : Pos} {fe : Ev J} {x y : Str} {kt : Nat}
theorem e_isi2 {T U : String} (hK : X.K = S.K) (hmi : X.mg "isinstance" = none) (hm : X.mg x = none) (hv : bootBuiltins x = some (.type T)) (hm2 : X.mg y = none) (hv2 : bootBuiltins y = some (.type U)) (he : PE X e (rdE S B M W .mix fe)) (hgi : Gl X "isinstance" := by rfl) (hg : Gl X x := by rfl) (hn : x ≠ "__name__" := by decide) (hd : (x == ("__debug__" : Str)) = false := by decide) (hg2 : Gl X y := by rfl) (hn2 : y ≠ "__name__" := by decide) (hd2 : (y == ("__debug__" : Str)) = false := by decide)
    (hs : starEach [e, .Tuple [.Name x p2, .Name y p3] kt pt] X.env = (false, eval e X.env) :: starEach [.Tuple [.Name x p2, .Name y p3] kt pt] X.env := by rfl) (hs1 : starEach [.Tuple [.Name x p2, .Name y p3] kt pt] X.env = [(false, eval (.Tuple [.Name x p2, .Name y p3] kt pt) X.env)] := by rfl) (hs2 : starEach [.Name x p2, .Name y p3] X.env = (false, eval (.Name x p2) X.env) :: starEach [.Name y p3] X.env := by rfl) (hs3 : starEach [.Name y p3] X.env = [(false, eval (.Name y p3) X.env)] := by rfl) (hpl : (backTo pos (starEach [.Tuple [.Name x p2, .Name y p3] kt pt] X.env)).any (·.1) = false := by rfl) :
    PE X (.Call (.Name "isinstance" p) [e, .Tuple [.Name x p2, .Name y p3] kt pt] [] pos) (rdE S B M W .clean (eUn (isi2D T U) fe)) :=
  PE.imp (pe_callB call_isiT hgi hmi (by decide +kernel) (pa_cons he (pa_cons (pe_tup (pa_cons (pe_bltn (v := .ty T) hg hm hv rfl hn hd) (pa_cons (pe_bltn (v := .ty U) hg2 hm2 hv2 rfl hn2 hd2) pa_nil hs3) hs2)) pa_nil hs1) hs) (by decide) (by decide) hs hpl) fun r H Q ⟨g, m, j, P, E, ok, hf, q, xo⟩ => by
    refine ⟨g, m, j, _, E, ok, hf, fun d1 j1 g1 v H1 hh l1 ok1 w => ?_, xo⟩
    obtain ⟨z, h2, p⟩ := hh
    unfold isi2D at h2
    split at h2
    · rename_i t ht
      split at h2
      · rename_i b c hb hc
        cases h2
        refine ⟨by show 2 ≤ sizeLine; rw [sizeLine_eq]; decide, fun tp ntp => ?_⟩
        obtain ⟨n1, n2, n3, n4⟩ := ok1.b.hn ntp
        have l2 : Le g1 (g1.see tp (.tup [.ty T, .ty U])) := Le.see n2
        have ok2 := ok1.b.see (.tup [.ty T, .ty U]) ntp
        exact ⟨v, tp, [.ty T, .ty U], .type t, [.type T, .type U], _, rfl, upd_same, .cons (.ty T) (.cons (.ty U) .nil), by rw [hK]; exact ty_of (w.le l2) ok2.gh ht, kit_any2 hb hc, q _ _ _ _ _ p (l1.trans l2) ⟨ok2, ok1.s.le l2⟩ (.bl _)⟩
      · cases h2
    · cases h2
end
/-! ### two names at once, one of them read in a comprehension -/
section
variable {S : Js J} {B : Bs} {M : Nat → Bool} {W : WX} {X : Cx} {i k : Nat} {a b : Expr} {fa fb : Ev J} {pos px py pt pt2 : Pos} {kt k2 : Nat} {x y : Str}
theorem zPc2 (i k : Nat) (hN : X.N.Nodup) (hK : X.K = S.K) (ha : PE X a (rdE S B M W (clOf M i) fa)) (hb : PE X b (rdE S B M W (clOf M k) fb)) (hc : X.calm = true := by rfl)
    (hi : X.N[i]? = some x := by rfl) (hk : X.N[k]? = some y := by rfl) (hik : i ≠ k := by decide)
    (hx : Loc X.env.scope x := by first | exact Or.inl rfl | exact Or.inr rfl) (hy : Loc X.env.scope y := by first | exact Or.inl rfl | exact Or.inr rfl)
    (fx : X.fn x = true ∨ X.env.scope.names.lookup x = some .local := by first | exact .inl rfl | exact .inr rfl) (fy : X.fn y = true ∨ X.env.scope.names.lookup y = some .local := by first | exact .inl rfl | exact .inr rfl)
    (hs1 : starEach [a, b] X.env = (false, eval a X.env) :: starEach [b] X.env := by rfl) (hs2 : starEach [b] X.env = [(false, eval b X.env)] := by rfl)
    (hw : swappedStores [.Tuple [.Name x px, .Name y py] kt pt] (.Tuple [a, b] k2 pt2) X.env = pure none := by rfl)
    (hs : swapsWithSole [.Tuple [.Name x px, .Name y py] kt pt] (.Tuple [a, b] k2 pt2) pos.line X.env = pure false := by rfl)
    (h1 : (assignEach [.Tuple [.Name x px, .Name y py] kt pt] X.env).map (·.2) = [assign (.Tuple [.Name x px, .Name y py] kt pt) X.env] := by rfl)
    (hn4 : (assignEach [.Name x px, .Name y py] X.env).length = 2 := by rfl) (hst : (assignEach [.Name x px, .Name y py] X.env).findIdx? (·.1) = none := by rfl)
    (t1 : (assignEach [.Name x px, .Name y py] X.env).map (·.2) = assign (.Name x px) X.env :: (assignEach [.Name y py] X.env).map (·.2) := by rfl) (t2 : (assignEach [.Name y py] X.env).map (·.2) = assign (.Name y py) X.env :: (assignEach [] X.env).map (·.2) := by rfl) :
    PS X (.Assign [.Tuple [.Name x px, .Name y py] kt pt] (.Tuple [a, b] k2 pt2) pos) (rdS S B M W (sPr2 i k fa fb)) :=
  PS.imp (ps_asg (pe_tupF (pa_cons ha (pa_cons hb pa_nil hs2) hs1)) (pg_tup hc (pgs_cons (pg_name hN hi hx fx) (pgs_cons (pg_name hN hk hy fy) pgs_nil t2) t1) hn4 hst) hs hw h1) fun E r H ⟨g, m, j, P, Ep, ok, hf, q, xo⟩ => by
    refine ⟨g, m, j, _, Ep, ok, hf, fun _ j1 g1 v1 H1 h1 l1 ok1 w1 => ⟨g1, m, _, _, Ep, ok1, h1, fun _ j2 g2 v2 H2 p l2 ok2 w2 => ⟨by show 2 ≤ sizeLine; rw [sizeLine_eq]; decide, fun p' o np hdo => ?_⟩, xo.le l1.f⟩, xo⟩
    have ne : ∀ {ga gb gc gd : Gh} {i k : Nat} {d1 d2 : D} {v w : V}, Val S ga gb (clOf M i) d1 v → Val S gc gd (clOf M k) d2 w → Same gb.G gc.G → M i = true → M k = true → v ≠ w := fun w1 w2 s hMi hM => by
      obtain ⟨a1, o1, rfl, e1⟩ := val_in (clOf_fresh hMi w1)
      obtain ⟨a2, rfl, n2, _⟩ := clOf_fresh hM w2
      intro z
      cases z
      rw [s _ _ e1] at n2; cases n2
    have n4 : g2.G p' = none := (ok2.b.hn np).2.1
    have lv : Le g2 (g2.see p' (.frz o (.tup [v1, v2]))) := Le.see n4
    refine ⟨p', [v1, v2], rfl, .inl (.inr ⟨o, upd_same⟩), rfl, _, _, rfl, _, _, rfl, rfl, ?_⟩
    refine q _ _ _ p _ _ _ ((l1.trans l2).trans lv).f ⟨ok2.b.see _ np, ?_⟩
    have s0 := ok2.s.le lv
    have ap1 : M i = true → Apt M r m v1 := fun hM => ok.s.apt (w := .fresh) (clOf_fresh hM w1)
    have ap2 : M k = true → Apt M r m v2 := fun hM => ok1.s.apt (w := .fresh) (clOf_fresh hM w2)
    refine (s0.setC ((w1.le l2).le lv) ap1).setC (w2.le lv) fun hM => ?_
    exact apt_set (ap2 hM) fun hMi => ne w1 w2 (Same.refl _) hMi hM
end
/-! ### m, n = divmod(a, b) -/
def sDm (i k : Nat) (fa fb : Ev J) (m : Sd) (j : J) (P : Fl → Sd → J → Prop) (E : XP J) : Prop := fa m j (fun x j1 => fb m j1 (fun y j2 => ∃ a b : Int, x = .int a ∧ y = .int b ∧ 0 < b ∧ sm b = true ∧ P .next ((m.set i (some (.int (a / b)))).set k (some (.int (a % b)))) j2) E) E
instance {i k : Nat} {f1 f2 : Ev J} [h1 : MoE f1] [h2 : MoE f2] : MoS (sDm i k f1 f2) := ⟨fun h q x => h1.mo h (fun _ _ h => h2.mo h (fun _ _ ⟨a, b, e1, e2, c1, c2, p⟩ => ⟨a, b, e1, e2, c1, c2, q _ _ _ p⟩) x) x⟩
@[simp ↓] theorem a_dm {i k : Nat} {fa fb : Ev J} {m : Sd} {j : J} {PS : Fl → Sd → J → Prop} {E : XP J} : sDm i k fa fb m j PS E = fa m j (fun x j1 => fb m j1 (fun y j2 => ∃ a b : Int, x = .int a ∧ y = .int b ∧ 0 < b ∧ sm b = true ∧ PS .next ((m.set i (some (.int (a / b)))).set k (some (.int (a % b)))) j2) E) E := rfl
theorem cdivp_sm {a b : Int} (h0 : 0 < b) (hb : sm b = true) : CDivP a b := ⟨h0, by
  have h1 : b.natAbs.log2 < 9000 := Nat.lt_of_lt_of_le (sm_log hb) (by decide)
  show (decide ((if (b == 0) = true then 0 else b.natAbs.log2 / 30 + 1) > 300) && _) = false
  have h2 : (b == 0) = false := by simp; omega
  rw [h2]
  have h3 : ¬ ((if false = true then 0 else b.natAbs.log2 / 30 + 1) > 300) := by simp; omega
  rw [decide_eq_false h3]; rfl⟩
section
variable {S : Js J} {B : Bs} {M : Nat → Bool} {W : WX} {X : Cx} {i k : Nat} {a b : Expr} {fa fb : Ev J} {pos px py pt p cp : Pos} {kt : Nat} {x y : Str}
theorem bt_divmod : bootBuiltins "divmod" = some (.builtin "divmod") := by decide +kernel
theorem zDm (i k : Nat) (hN : X.N.Nodup) (hmd : X.mg "divmod" = none) (ha : PE X a (rdE S B M W .mix fa)) (hb : PE X b (rdE S B M W .mix fb)) (hMi : M i = false := by rfl) (hMk : M k = false := by rfl) (hc : X.calm = true := by rfl)
    (hi : X.N[i]? = some x := by rfl) (hk : X.N[k]? = some y := by rfl) (hik : i ≠ k := by decide)
    (hx : Loc X.env.scope x := by first | exact Or.inl rfl | exact Or.inr rfl) (hy : Loc X.env.scope y := by first | exact Or.inl rfl | exact Or.inr rfl)
    (fx : X.fn x = true ∨ X.env.scope.names.lookup x = some .local := by first | exact .inl rfl | exact .inr rfl) (fy : X.fn y = true ∨ X.env.scope.names.lookup y = some .local := by first | exact .inl rfl | exact .inr rfl) (hg : Gl X "divmod" := by rfl)
    (hs1 : starEach [a, b] X.env = (false, eval a X.env) :: starEach [b] X.env := by rfl) (hs2 : starEach [b] X.env = [(false, eval b X.env)] := by rfl) (hpl : (backTo cp (starEach [b] X.env)).any (·.1) = false := by rfl)
    (hw : swappedStores [.Tuple [.Name x px, .Name y py] kt pt] (.Call (.Name "divmod" p) [a, b] [] cp) X.env = pure none := by rfl)
    (hs : swapsWithSole [.Tuple [.Name x px, .Name y py] kt pt] (.Call (.Name "divmod" p) [a, b] [] cp) pos.line X.env = pure false := by rfl)
    (h1 : (assignEach [.Tuple [.Name x px, .Name y py] kt pt] X.env).map (·.2) = [assign (.Tuple [.Name x px, .Name y py] kt pt) X.env] := by rfl)
    (hn4 : (assignEach [.Name x px, .Name y py] X.env).length = 2 := by rfl) (hst : (assignEach [.Name x px, .Name y py] X.env).findIdx? (·.1) = none := by rfl)
    (t1 : (assignEach [.Name x px, .Name y py] X.env).map (·.2) = assign (.Name x px) X.env :: (assignEach [.Name y py] X.env).map (·.2) := by rfl) (t2 : (assignEach [.Name y py] X.env).map (·.2) = assign (.Name y py) X.env :: (assignEach [] X.env).map (·.2) := by rfl) :
    PS X (.Assign [.Tuple [.Name x px, .Name y py] kt pt] (.Call (.Name "divmod" p) [a, b] [] cp) pos) (rdS S B M W (sDm i k fa fb)) :=
  PS.imp (ps_asg (pe_callB call_divmodW hg hmd bt_divmod (pa_cons ha (pa_cons hb pa_nil hs2) hs1) (by decide) (by decide) hs1 hpl) (pg_tup hc (pgs_cons (pg_name hN hi hx fx) (pgs_cons (pg_name hN hk hy fy) pgs_nil t2) t1) hn4 hst) hs hw h1) fun E r H ⟨g, m, j, P, Ep, ok, hf, q, xo⟩ => by
    refine ⟨g, m, j, _, Ep, ok, hf, fun _ j1 g1 v1 H1 h1 l1 ok1 w1 => ⟨g1, m, _, _, Ep, ok1, h1, fun _ j2 g2 v2 H2 p l2 ok2 w2 => ?_, xo.le l1.f⟩, xo⟩
    obtain ⟨a, b, rfl, rfl, c1, c2, pp⟩ := p
    have e1 := int_of w1
    have e2 := int_of w2
    subst e1 e2
    refine ⟨a, b, rfl, cdivp_sm c1 c2, fun p' np => ?_⟩
    have n4 : g2.G p' = none := (ok2.b.hn np).2.1
    have lv : Le g2 (g2.see p' (.tup [.int (a / b), .int (a % b)])) := Le.see n4
    refine ⟨p', [.int (a / b), .int (a % b)], rfl, .inl (.inl upd_same), rfl, _, _, rfl, _, _, rfl, rfl, ?_⟩
    refine q _ _ _ pp _ _ _ ((l1.trans l2).trans lv).f ⟨ok2.b.see _ np, ?_⟩
    have s0 := ok2.s.le lv
    have w3 : Val S g2 (g2.see p' (.tup [.int (a / b), .int (a % b)])) (clOf M i) (.int (a / b)) (.int (a / b)) := by unfold clOf; rw [hMi]; exact .int _
    have w4 : Val S g2 (g2.see p' (.tup [.int (a / b), .int (a % b)])) (clOf M k) (.int (a % b)) (.int (a % b)) := by unfold clOf; rw [hMk]; exact .int _
    exact (s0.setC w3 fun hM => by rw [hMi] at hM; cases hM).setC w4 fun hM => by rw [hMk] at hM; cases hM
end
/-! ### a slot that owns nothing from here to the block's end -/
def sUn (i : Nat) (f : Sv J) (m : Sd) (j : J) (P : Fl → Sd → J → Prop) (E : XP J) : Prop := f (m.set i none) j (fun l m' j' => P l (m'.set i none) j') xNo
instance {i : Nat} {f : Sv J} [h1 : MoS f] : MoS (sUn i f) := ⟨fun h q x => h1.mo h (fun _ _ _ p => q _ _ _ p) fun _ _ _ z => z⟩
@[simp ↓] theorem a_un1 {i : Nat} {f : Sv J} {m : Sd} {j : J} {PS : Fl → Sd → J → Prop} {E : XP J} : sUn i f m j PS E = f (m.set i none) j (fun l m' j' => PS l (m'.set i none) j') xNo := rfl
theorem slots_un {S : Js J} {g : Gh} {M M1 : Nat → Bool} {r : St} {m : Sd} {i : Nat} (s : Slots S g M r m) (eM : ∀ {k : Nat}, k ≠ i → M1 k = M k) : Slots S g M1 r (m.set i none) := by
  have ne : ∀ {k : Nat} {d : D}, (m.set i none)[k]? = some (some d) → k ≠ i ∧ m[k]? = some (some d) := fun {k d} e => by
    by_cases hk : k = i
    · subst hk
      by_cases hl : k < m.length
      · rw [List.getElem?_set_self hl] at e; cases e
      · rw [List.getElem?_eq_none (by simpa using hl)] at e; cases e
    · rw [List.getElem?_set_ne (Ne.symm hk)] at e
      exact ⟨hk, e⟩
  refine ⟨by rw [s.len, List.length_set], fun k d e z => ?_, fun k d e z => ?_, fun k l a d d' e1 e2 z1 z2 r1 r2 => ?_⟩
  · obtain ⟨hk, e⟩ := ne e
    exact s.fr k d e (by rw [← eM hk]; exact z)
  · obtain ⟨hk, e⟩ := ne e
    exact s.ow k d e (by rw [← eM hk]; exact z)
  · obtain ⟨hk, e1⟩ := ne e1
    obtain ⟨hl, e2⟩ := ne e2
    exact s.dj k l a d d' e1 e2 (by rw [← eM hk]; exact z1) (by rw [← eM hl]; exact z2) r1 r2
theorem zUn {S : Js J} {B : Bs} {M M1 : Nat → Bool} {W : WX} {X : Cx} {ss : List Stmt} {f : Sv J} (i : Nat) (h : PSs X ss (rdS S B M1 W f)) (hM : ∀ k, M1 k = (M k && !Nat.beq k i) := by intro k; rfl) : PSs X ss (rdS S B M W (sUn i f)) :=
  PSs.imp h fun En r H ⟨g, m, j, P, Ep, ok, hf, q, xo⟩ => by
    have eM : ∀ {k : Nat}, k ≠ i → M1 k = M k := fun {k} hk => by
      rw [hM k]
      have : Nat.beq k i = false := by
        cases hb : Nat.beq k i with
        | false => rfl
        | true => exact absurd (Nat.eq_of_beq_eq_true hb) hk
      rw [this]; simp
    have back : ∀ {g' : Gh} {r' : St} {H' : Hp} {m' : Sd} {j' : J}, Ok S B g' M1 r' H' m' j' → Ok S B g' M r' H' (m'.set i none) j' := fun ok => ⟨ok.b, slots_un ok.s fun hk => (eM hk).symm⟩
    refine ⟨g, m.set i none, j, _, _, ⟨ok.b, slots_un ok.s eM⟩, hf, fun fl m' j' p => ?_, XOut.no⟩
    have e := q _ _ _ p
    cases fl with
    | ret d => exact e
    | next => exact fun g' r' H' sf ok' => e g' r' H' sf (back ok')
    | brk => exact fun g' r' H' sf ok' => e g' r' H' sf (back ok')
    | cnt => exact fun g' r' H' sf ok' => e g' r' H' sf (back ok')
/-! ### defs that call themselves -/
def recF (N n : Nat) (g : Fv J → Sv J) : Nat → Fv J
  | 0 => fun _ _ _ _ => False
  | m + 1 => runF N n (g (recF N n g m))
theorem recF_len {N n : Nat} {g : Fv J → Sv J} : ∀ {m : Nat} {ds : List D} {j : J} {P : D → J → Prop} {E : Ex → J → Prop}, recF N n g m ds j P E → ds.length = n
  | 0, _, _, _, _, h => h.elim
  | _ + 1, _, _, _, _, h => runF_len _ _ _ _ h
theorem mo_rec {N n : Nat} {g : Fv J → Sv J} (h : ∀ φ, MoF φ → MoS (g φ)) : ∀ m, MoF (recF N n g m)
  | 0 => ⟨fun h => h.elim⟩
  | m + 1 => by
    have : MoS (g (recF N n g m)) := h _ (mo_rec (N := N) (n := n) h m)
    exact inferInstanceAs (MoF (runF N n (g (recF N n g m))))
theorem cal_rec {S : Js J} {P : Program} {w : World} {mg : Str → Option Value} {base : Heap} {x : Str} {st : Stmt} {f : Addr} {fd : FuncData} {N ps : List Str} {n lev : Nat} {M : Nat → Bool} {g : Fv J → Sv J} (F : L2.Fun S.K x x st f fd) (Sc : FnScope N ps (defScope st)) (hn : ps.length = n) (hM : ∀ i, i < n → M i = false) (hm : mg x = some (.ref f)) (hb : Binds S.K fd ps [])
    (hbody : ∀ (m : Nat) (φ : Fv J), Cal S P w mg base (lev + 1 + m) x n φ → ∀ (cdv : Value) (A : Around) (outer : List Env) (s : Shared) (H : Hp) (E : XK) (B : Bs), Room (lev + 1 + m) (A.deeper (envOfC x (defScope st) s.heap.objs.size f cdv)) → (A.deeper (envOfC x (defScope st) s.heap.objs.size f cdv)).guards = some [] →
      PSs (cxE P w S.K mg base N x (defScope st) f cdv A outer s H E) (defBody st) (rdS S B M (WD E) (g φ))) : ∀ m, Cal S P w mg base (lev + 1 + m) x n (recF N.length n g m)
  | 0 => ⟨⟨f, fd, ps, (fnG_sp (k := lev) F Sc (fun vs H Q E h => by
      obtain ⟨_, _, _, ds, _, _, _, _, _, _, rp, hl, h, _⟩ := h
      exact h.elim) (fun cdv A outer s H vs Q E hr hgd h => by
      obtain ⟨_, _, _, ds, _, _, _, _, _, _, rp, hl, h, _⟩ := h
      exact h.elim)).ofN, hm, F.kp, hb⟩, fun ds j P E h => h.elim⟩
  | m + 1 => ⟨⟨f, fd, ps, fnG_D F Sc hn hM (fun cdv A outer s H E B hr hgd => hbody m _ (cal_rec F Sc hn hM hm hb hbody m) cdv A outer s H E B hr hgd), hm, F.kp, hb⟩, runF_len⟩
end Mp

/-! OR: y = x, both own: y takes what x owns. -/
namespace Mp
open PySem PySem.Spec L2
open PyProof.Rows hiding St
variable {J : Type}
def sMove (i k : Nat) (m : Sd) (j : J) (P : Fl → Sd → J → Prop) (E : XP J) : Prop := ∃ d, m[k]? = some (some d) ∧ P .next ((m.set i (some d)).set k none) j
instance {i k : Nat} : MoS (sMove (J := J) i k) := ⟨fun ⟨d, e, p⟩ q _ => ⟨d, e, q _ _ _ p⟩⟩
@[simp ↓] theorem a_move {i k : Nat} {m : Sd} {j : J} {P : Fl → Sd → J → Prop} {E : XP J} : sMove i k m j P E = ∃ d, m[k]? = some (some d) ∧ P .next ((m.set i (some d)).set k none) j := rfl
theorem slots_move {S : Js J} {g : Gh} {M : Nat → Bool} {r : St} {m : Sd} {i k : Nat} {d : D} {a : Addr} (s : Slots S g M r m) (hi : M i = true) (hk : M k = true) (ne : i ≠ k) (hm : m[k]? = some (some d)) (hr : r[k]? = some (some (.ref a))) :
    Slots S g M (r.set i (some (.ref a))) ((m.set i (some d)).set k none) := by
  have ow : Own S g d a := by
    obtain ⟨b, h1, h2⟩ := s.ow k d hm hk
    rw [hr] at h1
    cases h1
    exact h2
  have get : ∀ {l : Nat} {e : D}, ((m.set i (some d)).set k none)[l]? = some (some e) → l ≠ k ∧ ((l = i ∧ e = d) ∨ (l ≠ i ∧ m[l]? = some (some e))) := fun {l e} h => by
    by_cases hl : l = k
    · subst hl
      by_cases c : l < (m.set i (some d)).length
      · rw [List.getElem?_set_self c] at h; cases h
      · rw [List.getElem?_eq_none (by simpa using c)] at h; cases h
    · rw [List.getElem?_set_ne (Ne.symm hl)] at h
      refine ⟨hl, ?_⟩
      by_cases hl2 : l = i
      · subst hl2
        by_cases c : l < m.length
        · rw [List.getElem?_set_self c] at h; cases h
          exact .inl ⟨rfl, rfl⟩
        · rw [List.getElem?_eq_none (by simpa using c)] at h; cases h
      · rw [List.getElem?_set_ne (Ne.symm hl2)] at h
        exact .inr ⟨hl2, h⟩
  have hil : ∀ {e : D}, ((m.set i (some d)).set k none)[i]? = some (some e) → i < r.length := fun {e} h => by
    have := (List.getElem?_eq_some_iff.mp h).1
    rw [s.len]
    simpa using this
  refine ⟨by simp [s.len], fun l e h z => ?_, fun l e h z => ?_, fun l l' b e e' h h' z z' r1 r2 => ?_⟩
  · rcases (get h).2 with ⟨rfl, _⟩ | ⟨n, h2⟩
    · rw [hi] at z; cases z
    · obtain ⟨v, v1, v2⟩ := s.fr l e h2 z
      exact ⟨v, by rw [List.getElem?_set_ne (Ne.symm n)]; exact v1, v2⟩
  · rcases (get h).2 with ⟨rfl, rfl⟩ | ⟨n, h2⟩
    · exact ⟨a, List.getElem?_set_self (hil h), ow⟩
    · obtain ⟨b, v1, v2⟩ := s.ow l e h2 z
      exact ⟨b, by rw [List.getElem?_set_ne (Ne.symm n)]; exact v1, v2⟩
  · have at_ : ∀ {l : Nat} {e : D} {b : Addr}, ((m.set i (some d)).set k none)[l]? = some (some e) → (r.set i (some (V.ref a)))[l]? = some (some (.ref b)) → (l = i ∧ b = a) ∨ (l ≠ i ∧ l ≠ k ∧ m[l]? = some (some e) ∧ r[l]? = some (some (.ref b))) := fun {l e b} h q => by
      rcases (get h).2 with ⟨rfl, _⟩ | ⟨n, h2⟩
      · rw [List.getElem?_set_self (hil h)] at q
        cases q
        exact .inl ⟨rfl, rfl⟩
      · rw [List.getElem?_set_ne (Ne.symm n)] at q
        exact .inr ⟨n, (get h).1, h2, q⟩
    rcases at_ h r1 with ⟨rfl, rfl⟩ | ⟨n1, n2, h1, q1⟩
    · rcases at_ h' r2 with ⟨rfl, _⟩ | ⟨n3, n4, h3, q3⟩
      · rfl
      · exact absurd (s.dj l' k b e' d h3 hm z' hk q3 hr) n4
    · rcases at_ h' r2 with ⟨rfl, rfl⟩ | ⟨n3, n4, h3, q3⟩
      · exact absurd (s.dj l k b e d h1 hm z hk q1 hr) n2
      · exact s.dj l l' b e e' h1 h3 z z' q1 q3
theorem zMove {S : Js J} {B : Bs} {M : Nat → Bool} {W : WX} {X : Cx} {pos py px : Pos} {y x : Str} (i k : Nat) (hN : X.N.Nodup) (hy : MtN X k x := by exact mtN _) (hMi : M i = true := by rfl) (hMk : M k = true := by rfl) (ne : i ≠ k := by decide) (hi : X.N[i]? = some y := by rfl) (hx : Loc X.env.scope y := by first | exact Or.inl rfl | exact Or.inr rfl)
    (hs : swapsWith (.Name x px) (some (.Name y py)) pos.line X.env = pure false := by rfl) (hf : X.fn y = true ∨ X.env.scope.names.lookup y = some .local := by first | exact Or.inl rfl | exact Or.inr rfl) :
    PS X (.Assign [.Name y py] (.Name x px) pos) (rdS S B M W (sMove i k)) :=
  PS.imp (ps_set hN hi hx hy.pe hs hf) fun E r H ⟨g, m, j, P, Ep, ok, ⟨d, hm, p⟩, q, xo⟩ => by
    obtain ⟨a, hr, _⟩ := ok.s.ow k d hm hMk
    exact ⟨_, hr, q _ _ _ p g _ H (Same.refl _) ⟨ok.b, slots_move ok.s hMi hMk ne hm hr⟩⟩
end Mp

namespace Lw
open PySem PySem.Spec L2 Mp
open PyProof.Rows hiding St
def top (i : Nat) : Stmt := PySem.Challenge.pw_blockturns_k42_exchanges_counted.main.body.getD i (.Pass ⟨0, 0, 0, 0⟩)

def bnames : List Str := ["abs", "int", "len", "range", "repr", "tuple"]
def Blt (mg : Str → Option Value) : Prop := ∀ x ∈ bnames, mg x = none
theorem h_abs : ("abs" : Str) ∈ bnames := by decide +kernel
theorem h_int : ("int" : Str) ∈ bnames := by decide +kernel
theorem h_len : ("len" : Str) ∈ bnames := by decide +kernel
theorem h_range : ("range" : Str) ∈ bnames := by decide +kernel
theorem h_repr : ("repr" : Str) ∈ bnames := by decide +kernel
theorem h_tuple : ("tuple" : Str) ∈ bnames := by decide +kernel
def cnames : List (Str × Int) := []
def Cst (mg : Str → Option Value) : Prop := ∀ p ∈ cnames, ∃ t, mg p.1 = some (.int p.2 t)

def at_Orders : List Str := ["blocks", "standard"]
theorem ha_Orders_blocks : ("blocks" : Str) ∈ at_Orders := by decide +kernel
theorem ha_Orders_standard : ("standard" : Str) ∈ at_Orders := by decide +kernel
def clT (D0 : Addr) (c : Nat) : Addr := match c with  | _ => D0


/-! ### the source: opened, drawn from -/
abbrev st_opened : Stmt := top 7
theorem sc_opened : FnScope ["_law_script", "_law_small", "_law_cell"] ["_law_script"] (defScope st_opened) := ⟨rfl, rfl, rfl, by decide +kernel, rfl, by decide +kernel, by decide +kernel⟩
theorem ok_opened {P : Program} {w : World} {K : PySem.W.Frag} {mg : Str → Option Value} {base : Heap} {f : Addr} {fd : FuncData} (hB : Blt mg) (F : L2.Fun K "_law_opened" "_law_opened" st_opened f fd) : FnG P w K mg base CX0 1 f fd ["_law_script"] (spOpenD 4201 K) := by
  refine fnG_sp F sc_opened (fun vs H Q E h => ?_) (fun cdv A outer s H vs Q E hr hgd h => ⟨tOpenD 4201 K, ?_, openD_pure (c := 4201) (by decide) rfl h⟩)
  · obtain ⟨_, _, rfl, _⟩ := h
    rfl
  · have hu := hr.units
    have nd := sc_opened.nd
    exact pss_cons (ps_set (i := 1) nd rfl (Or.inl rfl) pe_int)
      (pss_cons (ps_for PassesOwn.never rfl (pi_list (pe_slice sl_list (pv 0) po_none (po_some pe_int))) (pg_name (i := 2) nd rfl (Or.inl rfl))
        (pss_one (ps_if (pt_cmpR op_lt (pe_callB call_abs rfl (hB _ h_abs) bt_abs (pa_cons (pv 2) pa_nil)) (pe_op op_pow pe_int pe_int) (nomark _))
          (pss_one (ps_set (i := 1) nd rfl (Or.inl rfl) (pe_op op_mod (pe_op op_add (pe_op op_add (pe_op op_mulW (pv 1) pe_int) (pe_callB call_abs rfl (hB _ h_abs) bt_abs (pa_cons (pv 2) pa_nil))) (pe_op op_mulW pe_int (pe_callTy call_int1 rfl (hB _ h_int) bt_int (pa_cons (pe_cmpR op_lt (pv 2) pe_int (nomark _)) pa_nil)))) pe_int))) pss_nil)))
      (pss_one (ps_ret (pe_lst (pa_cons (pe_lc (own := [("_law_cell", 2)]) rfl nd (pi_list (pe_slice sl_list (pv 0) po_none (po_some pe_int))) (blk_of ["_law_script", "_law_small", "_law_cell"] (defScope st_opened) rfl rfl (by decide +kernel))
          (fun _ _ _ _ _ => pg_name (i := 2) nd rfl (Or.inl rfl)) (fun _ _ _ _ _ => pts_one (pt_cmpR op_ge (pe_callB call_abs rfl (hB _ h_abs) bt_abs (pa_cons (pv 2) pa_nil)) (pe_op op_pow pe_int pe_int) (nomark _)))
          (fun _ _ _ _ _ => pe_callB call_abs rfl (hB _ h_abs) bt_abs (pa_cons (pv 2) pa_nil))) (pa_cons (pv 1) (pa_cons pe_int pa_nil)))))))
abbrev st_roll : Stmt := top 8
theorem sc_roll : FnScope ["_law_deal", "_law_many", "_law_top"] ["_law_deal", "_law_many"] (defScope st_roll) := ⟨rfl, rfl, rfl, by decide +kernel, rfl, by decide +kernel, by decide +kernel⟩
theorem ok_roll {P : Program} {w : World} {K : PySem.W.Frag} {mg : Str → Option Value} {base : Heap} {cl xc : Nat → Addr} {xf : Nat → Str} {R f : Addr} {fd : FuncData} (hB : Blt mg) (F : L2.Fun K "_law_roll" "_law_roll" st_roll f fd) (hm : mg "_law_roll" = some (.ref f)) (hb : Binds K fd ["_law_deal", "_law_many"] []) : Cal (jsND K cl xc xf R) P w mg base 1 "_law_roll" 2 drawF := by
  refine ⟨⟨f, fd, ["_law_deal", "_law_many"], (fnG_sp F sc_roll (fun vs H Q E h => ?_) (fun cdv A outer s H vs Q E hr hgd h => ⟨tRoll K, ?_, roll_pure rfl (roll_spec h)⟩)).ofN, hm, F.kp, hb⟩, fun ds j P E h => ?_⟩
  · obtain ⟨_, _, _, ds, _, _, _, _, _, _, rp, hl, _⟩ := h
    rw [← rp.length, hl]
    rfl
  · have hu := hr.units
    have nd := sc_roll.nd
    exact pss_cons (ps_while PassesOwn.never (PW.pt (pw_and (pt_cmpR (op_neD hu) (pe_ix ix_list (pv 0) pe_int (fun _ _ => rfl)) (pe_lst pa_nil) (nomark _)) (pw_and1 (pt_cmpR op_eq (pe_ix ix_list (pe_ix ix_list (pv 0) pe_int (fun _ _ => rfl)) (pe_un un_neg pe_int) (fun _ _ => rfl)) pe_int (nomark _)))))
        (pss_one (ps_asg (pe_slice sl_list (pe_ix ix_list (pv 0) pe_int (fun _ _ => rfl)) po_none (po_some (pe_un un_neg pe_int))) (pg_sub (pv 0) pe_int set_list))))
      (pss_cons (ps_if (pt_cmpR (op_neD hu) (pe_ix ix_list (pv 0) pe_int (fun _ _ => rfl)) (pe_lst pa_nil) (nomark _))
        (pss_cons (ps_set (i := 2) nd rfl (Or.inl rfl) (pe_ix ix_list (pe_ix ix_list (pv 0) pe_int (fun _ _ => rfl)) (pe_un un_neg pe_int) (fun _ _ => rfl)))
          (pss_cons (ps_asg (pe_op op_cat (pe_slice sl_list (pe_ix ix_list (pv 0) pe_int (fun _ _ => rfl)) po_none (po_some (pe_un un_neg pe_int))) (pe_lst (pa_cons (pe_op op_fdivW (pv 2) (pv 1)) pa_nil))) (pg_sub (pv 0) pe_int set_list))
            (pss_one (ps_ret (pe_op op_mod (pv 2) (pv 1)))))) pss_nil)
      (pss_cons (ps_asg (pe_op op_add (pe_ix ix_list (pv 0) pe_int (fun _ _ => rfl)) pe_int) (pg_sub (pv 0) pe_int set_list))
      (pss_cons (ps_asg (pe_op op_mod (pe_op op_add (pe_op op_add (pe_op op_mulW (pe_ix ix_list (pv 0) pe_int (fun _ _ => rfl)) pe_int) (pe_op op_mulW (pe_ix ix_list (pv 0) pe_int (fun _ _ => rfl)) pe_int)) pe_int) pe_int) (pg_sub (pv 0) pe_int set_list))
      (pss_one (ps_ret (pe_op op_mod (pe_op op_fdivW (pe_op op_mod (pe_op op_add (pe_op op_mulW (pe_ix ix_list (pv 0) pe_int (fun _ _ => rfl)) (pe_ix ix_list (pv 0) pe_int (fun _ _ => rfl))) (pe_ix ix_list (pv 0) pe_int (fun _ _ => rfl))) pe_int) pe_int) (pv 1))))))) 
  · obtain ⟨k, rfl, _⟩ := h
    rfl


/-! ### binomial -/
def f_p_binomial : Sv Nat := (sSeq (sSet 2 (eIf (tBl (eOp geD (eVar 0) (eVar 1))) (eC (.int 1)) (eC (.int 0))))
    (sSeq (sFor (iRng1 (eOp mulD (eVar 1) (eVar 2))) (gNm 3) (sSeq (sSet 2 (eOp fdivD (eOp mulD (eVar 2) (eOp subD (eVar 0) (eVar 3))) (eOp addD (eVar 3) (eC (.int 1)))))
    sNil))
    (sSeq (sRet (eVar 2))
    sNil)))
instance : MoS f_p_binomial := by unfold f_p_binomial; infer_instance
def F_p_binomial : Fv Nat := runF 4 2 f_p_binomial
instance : MoF F_p_binomial := inferInstanceAs (MoF (runF 4 2 f_p_binomial))
def M_p_binomial : Nat → Bool := fun i => false
abbrev N_p_binomial : List Str := ["total", "some", "found", "step"]
abbrev st_p_binomial : Stmt := top 2
theorem sc_p_binomial : FnScope N_p_binomial ["total", "some"] (defScope st_p_binomial) := ⟨rfl, rfl, rfl, by decide +kernel, rfl, by decide +kernel, by decide +kernel⟩
theorem b_p_binomial {P : Program} {w : World} {K : PySem.W.Frag} {mg : Str → Option Value} {base : Heap} {cl xc : Nat → Addr} {xf : Nat → Str} {R f : Addr} {cdv : Value} {A : Around} {outer : List Env} {s : Shared} {H : Hp} {E : XK} {B : Bs} (hB : Blt mg) (hC : Cst mg)   
    (hr : Room 0 (A.deeper (envOfC "binomial" (defScope st_p_binomial) s.heap.objs.size f cdv))) (hgd : (A.deeper (envOfC "binomial" (defScope st_p_binomial) s.heap.objs.size f cdv)).guards = some []) :
    PSs (cxE P w K mg base N_p_binomial "binomial" (defScope st_p_binomial) f cdv A outer s H E) (defBody st_p_binomial) (rdS (jsND K cl xc xf R) B M_p_binomial (WD E) f_p_binomial) := by
  have hu := hr.units
  have hv := hv_of hr
  have hK : K = (jsND K cl xc xf R).K := rfl
  have nd := sc_p_binomial.nd
  have tk := takesE (P := P) (w := w) (K := K) (mg := mg) (base := base) (N := N_p_binomial) (qual := "binomial") (scope := defScope st_p_binomial) (f := f) (cd := cdv) (A := A) (outer := outer) (s := s) (H := H) (E := E)
  have ow := ownE (P := P) (w := w) (K := K) (mg := mg) (base := base) (N := N_p_binomial) (qual := "binomial") (scope := defScope st_p_binomial) (f := f) (cd := cdv) (A := A) (outer := outer) (s := s) (H := H) (E := E)
  exact (zC (zSet 2 nd (e_if (tCp (op_ge) s_cmp (toMixC (xV 0)) (toMixC (xV 1))) cI cI))
    (zC (zFor (iR1 (hB _ h_range) (toMixC (bMulC (xV 1) (xV 2)))) (gN 3 nd) (zC (zSet 2 nd (bDiv (toMixC (bMulC (xV 2) (bSub (toMixC (xV 0)) (toMixC (xV 3))))) (toMixC (bAddC hK (xV 3) cI))))
    s_nil) (hp := ow))
    (zC (s_ret (xV 2))
    s_nil)))
theorem ok_p_binomial {P : Program} {w : World} {K : PySem.W.Frag} {mg : Str → Option Value} {base : Heap} {cl xc : Nat → Addr} {xf : Nat → Str} {R f : Addr} {fd : FuncData} (hB : Blt mg) (hC : Cst mg)   (F : L2.Fun K "binomial" "binomial" st_p_binomial f fd) (hm : mg "binomial" = some (.ref f)) (hb : Binds K fd ["total", "some"] []) :
    Cal (jsND K cl xc xf R) P w mg base 1 "binomial" 2 F_p_binomial :=
  ⟨⟨f, fd, ["total", "some"], fnG_D F sc_p_binomial rfl (by decide) (fun cdv A outer s H E B hr hgd => b_p_binomial hB hC    hr hgd), hm, F.kp, hb⟩, runF_len⟩


/-! ### factorial -/
def f_p_factorial : Sv Nat := (sSeq (sSet 1 (eC (.int 1)))
    (sSeq (sFor (iRng1 (eVar 0)) (gNm 2) (sSeq (sSet 1 (eOp mulD (eVar 1) (eOp addD (eVar 2) (eC (.int 1)))))
    sNil))
    (sSeq (sRet (eVar 1))
    sNil)))
instance : MoS f_p_factorial := by unfold f_p_factorial; infer_instance
def F_p_factorial : Fv Nat := runF 3 1 f_p_factorial
instance : MoF F_p_factorial := inferInstanceAs (MoF (runF 3 1 f_p_factorial))
def M_p_factorial : Nat → Bool := fun i => false
abbrev N_p_factorial : List Str := ["many", "found", "step"]
abbrev st_p_factorial : Stmt := top 3
theorem sc_p_factorial : FnScope N_p_factorial ["many"] (defScope st_p_factorial) := ⟨rfl, rfl, rfl, by decide +kernel, rfl, by decide +kernel, by decide +kernel⟩
theorem b_p_factorial {P : Program} {w : World} {K : PySem.W.Frag} {mg : Str → Option Value} {base : Heap} {cl xc : Nat → Addr} {xf : Nat → Str} {R f : Addr} {cdv : Value} {A : Around} {outer : List Env} {s : Shared} {H : Hp} {E : XK} {B : Bs} (hB : Blt mg) (hC : Cst mg)   
    (hr : Room 0 (A.deeper (envOfC "factorial" (defScope st_p_factorial) s.heap.objs.size f cdv))) (hgd : (A.deeper (envOfC "factorial" (defScope st_p_factorial) s.heap.objs.size f cdv)).guards = some []) :
    PSs (cxE P w K mg base N_p_factorial "factorial" (defScope st_p_factorial) f cdv A outer s H E) (defBody st_p_factorial) (rdS (jsND K cl xc xf R) B M_p_factorial (WD E) f_p_factorial) := by
  have hu := hr.units
  have hv := hv_of hr
  have hK : K = (jsND K cl xc xf R).K := rfl
  have nd := sc_p_factorial.nd
  have tk := takesE (P := P) (w := w) (K := K) (mg := mg) (base := base) (N := N_p_factorial) (qual := "factorial") (scope := defScope st_p_factorial) (f := f) (cd := cdv) (A := A) (outer := outer) (s := s) (H := H) (E := E)
  have ow := ownE (P := P) (w := w) (K := K) (mg := mg) (base := base) (N := N_p_factorial) (qual := "factorial") (scope := defScope st_p_factorial) (f := f) (cd := cdv) (A := A) (outer := outer) (s := s) (H := H) (E := E)
  exact (zC (zSet 1 nd cI)
    (zC (zFor (iR1 (hB _ h_range) (toMixC (xV 0))) (gN 2 nd) (zC (zSet 1 nd (bMulC (xV 1) (bAddC hK (xV 2) cI)))
    s_nil) (hp := ow))
    (zC (s_ret (xV 1))
    s_nil)))
theorem ok_p_factorial {P : Program} {w : World} {K : PySem.W.Frag} {mg : Str → Option Value} {base : Heap} {cl xc : Nat → Addr} {xf : Nat → Str} {R f : Addr} {fd : FuncData} (hB : Blt mg) (hC : Cst mg)   (F : L2.Fun K "factorial" "factorial" st_p_factorial f fd) (hm : mg "factorial" = some (.ref f)) (hb : Binds K fd ["many"] []) :
    Cal (jsND K cl xc xf R) P w mg base 1 "factorial" 1 F_p_factorial :=
  ⟨⟨f, fd, ["many"], fnG_D F sc_p_factorial rfl (by decide) (fun cdv A outer s H E B hr hgd => b_p_factorial hB hC    hr hgd), hm, F.kp, hb⟩, runF_len⟩


/-! ### Orders.ways -/
def f_Orders_ways : Sv Nat := (sSeq (sSet 3 (eComp [7] (iSeq (eLst (aCons (eVar 2) (aStar (eVar 1) aNil)))) (gNm 7) (tBl (eOp inD (eOp addD (eVar 7) (eC (.int 1))) (eVar 1))) (eVar 7)))
    (sSeq (sAsg (gTp (gsCons (gNm 4) (gsCons (gNm 5) gsNil))) (eTup (aCons (eC (.int 0)) (aCons (eC (.int 1)) aNil))))
    (sSeq (sFor (iRng1 (eOp addD (eOp mulD (eB intB (aCons (eAt 0 "standard" (eVar 0)) aNil)) (eB lenB (aCons (eVar 3) aNil))) (eC (.int 1)))) (gNm 6) (sSeq (sAug addI 4 (eOp mulD (eOp mulD (eVar 5) (eCall F_p_binomial (aCons (eB lenB (aCons (eVar 3) aNil)) (aCons (eVar 6) aNil)))) (eCall F_p_factorial (aCons (eOp subD (eB lenB (aCons (eVar 1) aNil)) (eVar 6)) aNil))))
    (sSeq (sSet 5 (eOp subD (eC (.int 0)) (eVar 5)))
    sNil)))
    (sSeq (sRet (eVar 4))
    sNil))))
instance : MoS f_Orders_ways := by unfold f_Orders_ways; infer_instance
def F_Orders_ways : Fv Nat := runF 8 3 f_Orders_ways
instance : MoF F_Orders_ways := inferInstanceAs (MoF (runF 8 3 f_Orders_ways))
def M_Orders_ways : Nat → Bool := fun i => false
abbrev N_Orders_ways : List Str := ["self", "left", "last", "pairs", "found", "sign", "glued", "block"]
abbrev st_Orders_ways : Stmt := (clsBody (top 4)).getD 2 (.Pass ⟨0, 0, 0, 0⟩)
theorem sc_Orders_ways : FnScope N_Orders_ways ["self", "left", "last"] (defScope st_Orders_ways) := ⟨rfl, rfl, rfl, by decide +kernel, rfl, by decide +kernel, by decide +kernel⟩
theorem b_Orders_ways {P : Program} {w : World} {K : PySem.W.Frag} {mg : Str → Option Value} {base : Heap} {cl xc : Nat → Addr} {R : Addr} {xf : Nat → Str} {f : Addr} {cdv : Value} {A : Around} {outer : List Env} {s : Shared} {H : Hp} {E : XK} {B : Bs} (hB : Blt mg) (hC : Cst mg) (T_0 : ClsT (jsND K cl xc xf R) 0 at_Orders) (C_p_binomial : Cal (jsND K cl xc xf R) P w mg base 1 "binomial" 2 F_p_binomial) (C_p_factorial : Cal (jsND K cl xc xf R) P w mg base 1 "factorial" 1 F_p_factorial)
    (hr : Room 1 (A.deeper (envOfC "Orders.ways" (defScope st_Orders_ways) s.heap.objs.size f cdv))) (hgd : (A.deeper (envOfC "Orders.ways" (defScope st_Orders_ways) s.heap.objs.size f cdv)).guards = some []) :
    PSs (cxE P w K mg base N_Orders_ways "Orders.ways" (defScope st_Orders_ways) f cdv A outer s H E) (defBody st_Orders_ways) (rdS (jsND K cl xc xf R) B M_Orders_ways (WD E) f_Orders_ways) := by
  have hu := hr.units
  have hv := hv_of hr
  have hK : K = (jsND K cl xc xf R).K := rfl
  have nd := sc_Orders_ways.nd
  have tk := takesE (P := P) (w := w) (K := K) (mg := mg) (base := base) (N := N_Orders_ways) (qual := "Orders.ways") (scope := defScope st_Orders_ways) (f := f) (cd := cdv) (A := A) (outer := outer) (s := s) (H := H) (E := E)
  have ow := ownE (P := P) (w := w) (K := K) (mg := mg) (base := base) (N := N_Orders_ways) (qual := "Orders.ways") (scope := defScope st_Orders_ways) (f := f) (cd := cdv) (A := A) (outer := outer) (s := s) (H := H) (E := E)
  exact (zC (setLc 3 [("block", 7)] nd (blk_of N_Orders_ways (defScope st_Orders_ways) rfl rfl (by decide +kernel)) (iSq hK (toClean (lsF (aC (xV 2) (a_star (k := true) hK (xV 1) aN))))) (fun _ _ _ _ _ => (gN 7 nd)) (fun _ _ _ _ _ => (ts1 (tIn (kIn hK hv) s_in (toMixC (bAddC hK (xV 7) cI)) (toMixC (xV 1))))) (fun _ _ _ _ _ => (xV 7)))
    (zC (zAsg (tpC (aC cI (aC cI aN))) (gT hK (gsC_len (gsC_len gsN_len)) (gsC (gN 4 nd) (gsC (gN 5 nd) gs0))))
    (zC (zFor (iR1 (hB _ h_range) (toMixC (bAddC hK (bMulC (kInt (hB _ h_int) (aX (toMixC (atC hK T_0 ha_Orders_standard (xV 0))) aN)) (kLen hK (hB _ h_len) (aX (toMixC (xV 3)) aN))) cI))) (gN 6 nd) (zC (zAdd 4 nd (toMixC (bMulC (bMulC (xV 5) (callC hK tk C_p_binomial (hr.mono (by decide)) hgd (aC (kLen hK (hB _ h_len) (aX (toMixC (xV 3)) aN)) (aC (xV 6) aN)))) (callC hK tk C_p_factorial (hr.mono (by decide)) hgd (aC (bSub (toMixC (kLen hK (hB _ h_len) (aX (toMixC (xV 1)) aN))) (toMixC (xV 6))) aN)))))
    (zC (zSet 5 nd (bSub (toMixC cI) (toMixC (xV 5))))
    s_nil)) (hp := ow))
    (zC (s_ret (xV 4))
    s_nil))))
theorem ok_Orders_ways {P : Program} {w : World} {K : PySem.W.Frag} {mg : Str → Option Value} {base : Heap} {cl xc : Nat → Addr} {R : Addr} {xf : Nat → Str} (hB : Blt mg) (hC : Cst mg) (T_0 : ClsT (jsND K cl xc xf R) 0 at_Orders) (C_p_binomial : Cal (jsND K cl xc xf R) P w mg base 1 "binomial" 2 F_p_binomial) (C_p_factorial : Cal (jsND K cl xc xf R) P w mg base 1 "factorial" 1 F_p_factorial) (h : MF K cl 0 "ways" "Orders.ways" st_Orders_ways ["self", "left", "last"]) : Mth (jsND K cl xc xf R) P w mg base 2 0 "ways" 3 F_Orders_ways := by
  obtain ⟨f, fd, F, hm, hb⟩ := h.ex
  exact ⟨⟨f, fd, _, hm, fnG_D F sc_Orders_ways rfl (by decide) (fun cdv A outer s H E B hr hgd => b_Orders_ways hB hC T_0 C_p_binomial C_p_factorial hr hgd), hb⟩, runF_len⟩


/-! ### Orders.count -/
def f_Orders_count : Sv Nat := (sSeq (sRet (eMt1 0 "ways" F_Orders_ways (eVar 0) (aCons (eAt 0 "blocks" (eVar 0)) (aCons (eUn negD (eC (.int 2))) aNil))))
    sNil)
instance : MoS f_Orders_count := by unfold f_Orders_count; infer_instance
def F_Orders_count : Fv Nat := runF 1 1 f_Orders_count
instance : MoF F_Orders_count := inferInstanceAs (MoF (runF 1 1 f_Orders_count))
def M_Orders_count : Nat → Bool := fun i => false
abbrev N_Orders_count : List Str := ["self"]
abbrev st_Orders_count : Stmt := (clsBody (top 4)).getD 3 (.Pass ⟨0, 0, 0, 0⟩)
theorem sc_Orders_count : FnScope N_Orders_count ["self"] (defScope st_Orders_count) := ⟨rfl, rfl, rfl, by decide +kernel, rfl, by decide +kernel, by decide +kernel⟩
theorem b_Orders_count {P : Program} {w : World} {K : PySem.W.Frag} {mg : Str → Option Value} {base : Heap} {cl xc : Nat → Addr} {R : Addr} {xf : Nat → Str} {f : Addr} {cdv : Value} {A : Around} {outer : List Env} {s : Shared} {H : Hp} {E : XK} {B : Bs} (hB : Blt mg) (hC : Cst mg) (T_0 : ClsT (jsND K cl xc xf R) 0 at_Orders) (C_Orders_ways : Mth (jsND K cl xc xf R) P w mg base 2 0 "ways" 3 F_Orders_ways)
    (hr : Room 2 (A.deeper (envOfC "Orders.count" (defScope st_Orders_count) s.heap.objs.size f cdv))) (hgd : (A.deeper (envOfC "Orders.count" (defScope st_Orders_count) s.heap.objs.size f cdv)).guards = some []) :
    PSs (cxE P w K mg base N_Orders_count "Orders.count" (defScope st_Orders_count) f cdv A outer s H E) (defBody st_Orders_count) (rdS (jsND K cl xc xf R) B M_Orders_count (WD E) f_Orders_count) := by
  have hu := hr.units
  have hv := hv_of hr
  have hK : K = (jsND K cl xc xf R).K := rfl
  have nd := sc_Orders_count.nd
  have tk := takesE (P := P) (w := w) (K := K) (mg := mg) (base := base) (N := N_Orders_count) (qual := "Orders.count") (scope := defScope st_Orders_count) (f := f) (cd := cdv) (A := A) (outer := outer) (s := s) (H := H) (E := E)
  have ow := ownE (P := P) (w := w) (K := K) (mg := mg) (base := base) (N := N_Orders_count) (qual := "Orders.count") (scope := defScope st_Orders_count) (f := f) (cd := cdv) (A := A) (outer := outer) (s := s) (H := H) (E := E)
  exact (zC (s_ret (mthC hK tk T_0 C_Orders_ways (hr.mono (by decide)) hgd (xV 0) (aC (atC hK T_0 ha_Orders_blocks (xV 0)) (aC (uNeg (toMixC cI)) aN))))
    s_nil)
theorem ok_Orders_count {P : Program} {w : World} {K : PySem.W.Frag} {mg : Str → Option Value} {base : Heap} {cl xc : Nat → Addr} {R : Addr} {xf : Nat → Str} (hB : Blt mg) (hC : Cst mg) (T_0 : ClsT (jsND K cl xc xf R) 0 at_Orders) (C_Orders_ways : Mth (jsND K cl xc xf R) P w mg base 2 0 "ways" 3 F_Orders_ways) (h : MF K cl 0 "count" "Orders.count" st_Orders_count ["self"]) : Mth (jsND K cl xc xf R) P w mg base 3 0 "count" 1 F_Orders_count := by
  obtain ⟨f, fd, F, hm, hb⟩ := h.ex
  exact ⟨⟨f, fd, _, hm, fnG_D F sc_Orders_count rfl (by decide) (fun cdv A outer s H E B hr hgd => b_Orders_count hB hC T_0 C_Orders_ways hr hgd), hb⟩, runF_len⟩


/-! ### Orders.__init__ -/
def f_Orders___init__ : Sv Ob := (sSeq (sOSet 0 "blocks" (eTrg (iRng1 (eVar 1))))
    (sSeq (sOSet 0 "standard" (eVar 2))
    sNil))
instance : MoS f_Orders___init__ := by unfold f_Orders___init__; infer_instance
def F_Orders___init__ : Fv Ob := runF 3 3 f_Orders___init__
instance : MoF F_Orders___init__ := inferInstanceAs (MoF (runF 3 3 f_Orders___init__))
def M_Orders___init__ : Nat → Bool := fun i => false
abbrev N_Orders___init__ : List Str := ["self", "blocks", "standard"]
abbrev st_Orders___init__ : Stmt := (clsBody (top 4)).getD 0 (.Pass ⟨0, 0, 0, 0⟩)
theorem sc_Orders___init__ : FnScope N_Orders___init__ ["self", "blocks", "standard"] (defScope st_Orders___init__) := ⟨rfl, rfl, rfl, by decide +kernel, rfl, by decide +kernel, by decide +kernel⟩
theorem b_Orders___init__ {J : Type} {S : Js J} {P : Program} {w : World} {mg : Str → Option Value} {base : Heap} {f : Addr} {cdv : Value} {A : Around} {outer : List Env} {s : Shared} {H : Hp} {E : XK} {B : Bs} (hB : Blt mg) (hC : Cst mg) (T_0 : ClsT S 0 at_Orders)
    (hr : Room 0 (A.deeper (envOfC "Orders.__init__" (defScope st_Orders___init__) s.heap.objs.size f cdv))) (hgd : (A.deeper (envOfC "Orders.__init__" (defScope st_Orders___init__) s.heap.objs.size f cdv)).guards = some []) :
    PSs (cxE P w S.K mg base N_Orders___init__ "Orders.__init__" (defScope st_Orders___init__) f cdv A outer s H E) (defBody st_Orders___init__) (rdS (jsO S) B M_Orders___init__ (WD E) f_Orders___init__) := by
  have hu := hr.units
  have hv := hv_of hr
  have hK : S.K = S.K := rfl
  have nd := sc_Orders___init__.nd
  have tk := takesE (P := P) (w := w) (K := S.K) (mg := mg) (base := base) (N := N_Orders___init__) (qual := "Orders.__init__") (scope := defScope st_Orders___init__) (f := f) (cd := cdv) (A := A) (outer := outer) (s := s) (H := H) (E := E)
  have ow := ownE (P := P) (w := w) (K := S.K) (mg := mg) (base := base) (N := N_Orders___init__) (qual := "Orders.__init__") (scope := defScope st_Orders___init__) (f := f) (cd := cdv) (A := A) (outer := outer) (s := s) (H := H) (E := E)
  exact (zC (zOSet hK T_0 ha_Orders_blocks (tR1 (hB _ h_tuple) (hB _ h_range) (toMixC (xV 1))))
    (zC (zOSet hK T_0 ha_Orders_standard (xV 2))
    s_nil))
theorem ok_Orders___init__ {J : Type} {S : Js J} {P : Program} {w : World} {mg : Str → Option Value} {base : Heap} (hB : Blt mg) (hC : Cst mg) (T_0 : ClsT S 0 at_Orders) (h : MI S.K S.cl 0 "__init__" "Orders.__init__" st_Orders___init__ ["self", "blocks", "standard"]) (hg : mg "Orders" = some (.ref (S.cl 0))) : Mkr S P w mg base 1 0 "Orders" 3 F_Orders___init__ := by
  obtain ⟨f, fd, F, hm, hb⟩ := h.ex
  exact ⟨⟨f, fd, _, hm, fnG_D F sc_Orders___init__ rfl (by decide) (fun cdv A outer s H E B hr hgd => b_Orders___init__ hB hC T_0 hr hgd), hb, hg⟩, runF_len⟩

theorem mk_Orders {J : Type} {S : Js J} {P : Program} {w : World} {K : PySem.W.Frag} {mg : Str → Option Value} {base : Heap} {cl xc : Nat → Addr} {xf : Nat → Str} (hS : Lk K cl xc xf S) (hB : Blt mg) (hC : Cst mg) (T_0 : ClsT S 0 at_Orders)  (Q_Orders___init__ : MI K cl 0 "__init__" "Orders.__init__" st_Orders___init__ ["self", "blocks", "standard"]) (g_Orders : mg "Orders" = some (.ref (cl 0))) : Mkr S P w mg base 1 0 "Orders" 3 F_Orders___init__ := by
  obtain ⟨rfl, rfl, rfl, rfl⟩ := hS
  exact ok_Orders___init__ hB hC T_0 Q_Orders___init__ g_Orders


/-! ### count_exchanges -/
def f_p_count_exchanges : Sv Nat := (sSeq (sRet (eOp mulD (eCall F_p_binomial (aCons (eOp subD (eVar 0) (eC (.int 1))) (aCons (eOp subD (eVar 1) (eC (.int 1))) aNil))) (eMt1 0 "count" F_Orders_count (eMak 0 F_Orders___init__ (aCons (eVar 1) (aCons (eVar 2) aNil))) aNil)))
    sNil)
instance : MoS f_p_count_exchanges := by unfold f_p_count_exchanges; infer_instance
def F_p_count_exchanges : Fv Nat := runF 3 3 f_p_count_exchanges
instance : MoF F_p_count_exchanges := inferInstanceAs (MoF (runF 3 3 f_p_count_exchanges))
def M_p_count_exchanges : Nat → Bool := fun i => false
abbrev N_p_count_exchanges : List Str := ["n", "blocks", "standard"]
abbrev st_p_count_exchanges : Stmt := top 5
theorem sc_p_count_exchanges : FnScope N_p_count_exchanges ["n", "blocks", "standard"] (defScope st_p_count_exchanges) := ⟨rfl, rfl, rfl, by decide +kernel, rfl, by decide +kernel, by decide +kernel⟩
theorem b_p_count_exchanges {P : Program} {w : World} {K : PySem.W.Frag} {mg : Str → Option Value} {base : Heap} {cl xc : Nat → Addr} {xf : Nat → Str} {R f : Addr} {cdv : Value} {A : Around} {outer : List Env} {s : Shared} {H : Hp} {E : XK} {B : Bs} (hB : Blt mg) (hC : Cst mg) (T_0 : ClsT (jsND K cl xc xf R) 0 at_Orders) (C_Orders : Mkr (jsND K cl xc xf R) P w mg base 1 0 "Orders" 3 F_Orders___init__) (C_Orders_count : Mth (jsND K cl xc xf R) P w mg base 3 0 "count" 1 F_Orders_count) (C_p_binomial : Cal (jsND K cl xc xf R) P w mg base 1 "binomial" 2 F_p_binomial) 
    (hr : Room 3 (A.deeper (envOfC "count_exchanges" (defScope st_p_count_exchanges) s.heap.objs.size f cdv))) (hgd : (A.deeper (envOfC "count_exchanges" (defScope st_p_count_exchanges) s.heap.objs.size f cdv)).guards = some []) :
    PSs (cxE P w K mg base N_p_count_exchanges "count_exchanges" (defScope st_p_count_exchanges) f cdv A outer s H E) (defBody st_p_count_exchanges) (rdS (jsND K cl xc xf R) B M_p_count_exchanges (WD E) f_p_count_exchanges) := by
  have hu := hr.units
  have hv := hv_of hr
  have hK : K = (jsND K cl xc xf R).K := rfl
  have nd := sc_p_count_exchanges.nd
  have tk := takesE (P := P) (w := w) (K := K) (mg := mg) (base := base) (N := N_p_count_exchanges) (qual := "count_exchanges") (scope := defScope st_p_count_exchanges) (f := f) (cd := cdv) (A := A) (outer := outer) (s := s) (H := H) (E := E)
  have ow := ownE (P := P) (w := w) (K := K) (mg := mg) (base := base) (N := N_p_count_exchanges) (qual := "count_exchanges") (scope := defScope st_p_count_exchanges) (f := f) (cd := cdv) (A := A) (outer := outer) (s := s) (H := H) (E := E)
  exact (zC (s_ret (bMulC (callC hK tk C_p_binomial (hr.mono (by decide)) hgd (aC (bSub (toMixC (xV 0)) (toMixC cI)) (aC (bSub (toMixC (xV 1)) (toMixC cI)) aN))) (mthC0 hK tk T_0 C_Orders_count (hr.mono (by decide)) hgd (makC hK tk C_Orders (hr.mono (by decide)) hgd (aC (xV 1) (aC (xV 2) aN))))))
    s_nil)
theorem ok_p_count_exchanges {P : Program} {w : World} {K : PySem.W.Frag} {mg : Str → Option Value} {base : Heap} {cl xc : Nat → Addr} {xf : Nat → Str} {R f : Addr} {fd : FuncData} (hB : Blt mg) (hC : Cst mg) (T_0 : ClsT (jsND K cl xc xf R) 0 at_Orders) (C_Orders : Mkr (jsND K cl xc xf R) P w mg base 1 0 "Orders" 3 F_Orders___init__) (C_Orders_count : Mth (jsND K cl xc xf R) P w mg base 3 0 "count" 1 F_Orders_count) (C_p_binomial : Cal (jsND K cl xc xf R) P w mg base 1 "binomial" 2 F_p_binomial) (F : L2.Fun K "count_exchanges" "count_exchanges" st_p_count_exchanges f fd) (hm : mg "count_exchanges" = some (.ref f)) (hb : ∃ ds, Vals [dvV (.bl false)] ds ∧ Binds K fd ["n", "blocks", "standard"] ds) (hb2 : ∀ (s : Shared) (us ws : List Value), K.In s.heap → us.length = 2 → ws.length = 1 → BindsTo s fd ⟨us, [("standard" : Str)].zip ws⟩ ((["n", "blocks", "standard"] : List Str).zip (us ++ ws))) :
    CalK (jsND K cl xc xf R) P w mg base 4 "count_exchanges" 2 "standard" (.bl false) F_p_count_exchanges := by
  obtain ⟨ds, h3, h4⟩ := hb
  exact ⟨⟨f, fd, ["n", "blocks", "standard"], ds, fnG_D F sc_p_count_exchanges rfl (by decide) (fun cdv A outer s H E B hr hgd => b_p_count_exchanges hB hC T_0 C_Orders C_Orders_count C_p_binomial  hr hgd), hm, F.kp, h3, h4, rfl, hb2⟩, runF_len, rfl⟩


/-! ### _law_sizes -/
def f_sizes (φ : Fv Nat) : Sv Nat := (sSeq (sIf (tBl (eOp eqD (eVar 1) (eC (.int 1)))) (sSeq (sRet (eLst (aCons (eTup (aCons (eVar 0) aNil)) aNil)))
    sNil) sNil)
    (sSeq (sSet 2 (eLst aNil))
    (sSeq (sFor (iRng2 (eC (.int 1)) (eOp addD (eOp subD (eVar 0) (eVar 1)) (eC (.int 2)))) (gNm 3) (sSeq (sExt 2 (eComp [4] (iSeq (eCall φ (aCons (eOp subD (eVar 0) (eVar 3)) (aCons (eOp subD (eVar 1) (eC (.int 1))) aNil)))) (gNm 4) tYesD (eOp addD (eTup (aCons (eVar 3) aNil)) (eVar 4))))
    sNil))
    (sSeq (sRet (eVar 2))
    sNil))))
instance {φ : Fv Nat} [MoF φ] : MoS (f_sizes φ) := by unfold f_sizes; infer_instance
def F_sizes : Fv Nat := recF 5 2 f_sizes 8
instance : MoF F_sizes := mo_rec (fun _ _ => inferInstance) 8
def M_sizes : Nat → Bool := fun i => Nat.beq i 2
abbrev N_sizes : List Str := ["_law_n", "_law_blocks", "_law_found", "_law_first", "_law_rest"]
abbrev st_sizes : Stmt := top 10
theorem sc_sizes : FnScope N_sizes ["_law_n", "_law_blocks"] (defScope st_sizes) := ⟨rfl, rfl, rfl, by decide +kernel, rfl, by decide +kernel, by decide +kernel⟩
theorem b_sizes {P : Program} {w : World} {K : PySem.W.Frag} {mg : Str → Option Value} {base : Heap} {cl xc : Nat → Addr} {xf : Nat → Str} {R f : Addr} {φ : Fv Nat} {m : Nat} {cdv : Value} {A : Around} {outer : List Env} {s : Shared} {H : Hp} {E : XK} {B : Bs} (hB : Blt mg) (hC : Cst mg)   (C_sizes : Cal (jsND K cl xc xf R) P w mg base (0 + 1 + m) "_law_sizes" 2 φ)
    (hr : Room (0 + 1 + m) (A.deeper (envOfC "_law_sizes" (defScope st_sizes) s.heap.objs.size f cdv))) (hgd : (A.deeper (envOfC "_law_sizes" (defScope st_sizes) s.heap.objs.size f cdv)).guards = some []) :
    PSs (cxE P w K mg base N_sizes "_law_sizes" (defScope st_sizes) f cdv A outer s H E) (defBody st_sizes) (rdS (jsND K cl xc xf R) B M_sizes (WD E) (f_sizes φ)) := by
  have hu := hr.units
  have hv := hv_of hr
  have hK : K = (jsND K cl xc xf R).K := rfl
  have nd := sc_sizes.nd
  have tk := takesE (P := P) (w := w) (K := K) (mg := mg) (base := base) (N := N_sizes) (qual := "_law_sizes") (scope := defScope st_sizes) (f := f) (cd := cdv) (A := A) (outer := outer) (s := s) (H := H) (E := E)
  have ow := ownE (P := P) (w := w) (K := K) (mg := mg) (base := base) (N := N_sizes) (qual := "_law_sizes") (scope := defScope st_sizes) (f := f) (cd := cdv) (A := A) (outer := outer) (s := s) (H := H) (E := E)
  exact (zC (s_if (tCp (kEq hK hu) s_eq (toMixC (xV 1)) (toMixC cI)) (zC (s_ret (lsF (aC (tpC (aC (xV 0) aN)) aN)))
    s_nil) s_nil)
    (zC (zSetO 2 nd (lsF aN))
    (zC (zFor (iR2 (hB _ h_range) (toMixC cI) (toMixC (bAddC hK (bSub (toMixC (xV 0)) (toMixC (xV 1))) cI))) (gN 3 nd) (zC (zExt 2 (toClean (lcF [("_law_rest", 4)] nd (blk_of N_sizes (defScope st_sizes) rfl rfl (by decide +kernel)) (iSq hK (callC hK tk C_sizes (hr.mono (by omega)) hgd (aC (bSub (toMixC (xV 0)) (toMixC (xV 3))) (aC (bSub (toMixC (xV 1)) (toMixC cI)) aN)))) (fun _ _ _ _ _ => (gN 4 nd)) (fun _ _ _ _ _ => ts0) (fun _ _ _ _ _ => (bAddC hK (tpC (aC (xV 3) aN)) (xV 4))))))
    s_nil) (hp := ow))
    (zC (s_ret (xO 2))
    s_nil))))
theorem ok_sizes {P : Program} {w : World} {K : PySem.W.Frag} {mg : Str → Option Value} {base : Heap} {cl xc : Nat → Addr} {xf : Nat → Str} {R f : Addr} {fd : FuncData} (hB : Blt mg) (hC : Cst mg)   (F : L2.Fun K "_law_sizes" "_law_sizes" st_sizes f fd) (hm : mg "_law_sizes" = some (.ref f)) (hb : Binds K fd ["_law_n", "_law_blocks"] []) :
    Cal (jsND K cl xc xf R) P w mg base 9 "_law_sizes" 2 F_sizes :=
  cal_rec (S := (jsND K cl xc xf R)) (lev := 0) (g := f_sizes) F sc_sizes rfl (by decide) hm hb (fun m φ C cdv A outer s H E B hr hgd => b_sizes hB hC    C hr hgd) 8


/-! ### _law_orders -/
def f_orders : Sv Nat := (sSeq (sSet 1 (eLst (aCons (eTup aNil) aNil)))
    (sSeq (sFor (iRng1 (eVar 0)) (gNm 2) (sSeq (sSet 3 (eLst aNil))
    (sSeq (sForJ (jSeq 1) (gNm 4) (sSeq (sExt 3 (eComp [5] (iRng1 (eVar 0)) (gNm 5) (tBl (eOp ninD (eVar 5) (eVar 4))) (eOp addD (eVar 4) (eTup (aCons (eVar 5) aNil)))))
    sNil))
    (sSeq (sMove 1 3)
    sNil))))
    (sSeq (sRet (eVar 1))
    sNil)))
instance : MoS f_orders := by unfold f_orders; infer_instance
def F_orders : Fv Nat := runF 6 1 f_orders
instance : MoF F_orders := inferInstanceAs (MoF (runF 6 1 f_orders))
def M_orders : Nat → Bool := fun i => Nat.beq i 1 || Nat.beq i 3
abbrev N_orders : List Str := ["_law_many", "_law_rows", "_law_turn", "_law_longer", "_law_row", "_law_block"]
abbrev st_orders : Stmt := top 9
theorem sc_orders : FnScope N_orders ["_law_many"] (defScope st_orders) := ⟨rfl, rfl, rfl, by decide +kernel, rfl, by decide +kernel, by decide +kernel⟩
theorem b_orders {P : Program} {w : World} {K : PySem.W.Frag} {mg : Str → Option Value} {base : Heap} {cl xc : Nat → Addr} {xf : Nat → Str} {R f : Addr} {cdv : Value} {A : Around} {outer : List Env} {s : Shared} {H : Hp} {E : XK} {B : Bs} (hB : Blt mg) (hC : Cst mg)   
    (hr : Room 0 (A.deeper (envOfC "_law_orders" (defScope st_orders) s.heap.objs.size f cdv))) (hgd : (A.deeper (envOfC "_law_orders" (defScope st_orders) s.heap.objs.size f cdv)).guards = some []) :
    PSs (cxE P w K mg base N_orders "_law_orders" (defScope st_orders) f cdv A outer s H E) (defBody st_orders) (rdS (jsND K cl xc xf R) B M_orders (WD E) f_orders) := by
  have hu := hr.units
  have hv := hv_of hr
  have hK : K = (jsND K cl xc xf R).K := rfl
  have nd := sc_orders.nd
  have tk := takesE (P := P) (w := w) (K := K) (mg := mg) (base := base) (N := N_orders) (qual := "_law_orders") (scope := defScope st_orders) (f := f) (cd := cdv) (A := A) (outer := outer) (s := s) (H := H) (E := E)
  have ow := ownE (P := P) (w := w) (K := K) (mg := mg) (base := base) (N := N_orders) (qual := "_law_orders") (scope := defScope st_orders) (f := f) (cd := cdv) (A := A) (outer := outer) (s := s) (H := H) (E := E)
  exact (zC (zSetO 1 nd (lsF (aC (tpC aN) aN)))
    (zC (zFor (iR1 (hB _ h_range) (toMixC (xV 0))) (gN 2 nd) (zC (zSetO 3 nd (lsF aN))
    (zC (zForJ (jSq 1 hK) (gN 4 nd) (zC (zExt 3 (toClean (lcF [("_law_block", 5)] nd (blk_of N_orders (defScope st_orders) rfl rfl (by decide +kernel)) (iR1 (hB _ h_range) (toMixC (xV 0))) (fun _ _ _ _ _ => (gN 5 nd)) (fun _ _ _ _ _ => (ts1 (tIn (kNotIn hK hv) s_notIn (toMixC (xV 5)) (toMixC (xV 4))))) (fun _ _ _ _ _ => (bAddC hK (xV 4) (tpC (aC (xV 5) aN)))))))
    s_nil) (hp := ow))
    (zC (zMove 1 3 nd)
    s_nil))) (hp := ow))
    (zC (s_ret (xO 1))
    s_nil)))
theorem ok_orders {P : Program} {w : World} {K : PySem.W.Frag} {mg : Str → Option Value} {base : Heap} {cl xc : Nat → Addr} {xf : Nat → Str} {R f : Addr} {fd : FuncData} (hB : Blt mg) (hC : Cst mg)   (F : L2.Fun K "_law_orders" "_law_orders" st_orders f fd) (hm : mg "_law_orders" = some (.ref f)) (hb : Binds K fd ["_law_many"] []) :
    Cal (jsND K cl xc xf R) P w mg base 1 "_law_orders" 1 F_orders :=
  ⟨⟨f, fd, ["_law_many"], fnG_D F sc_orders rfl (by decide) (fun cdv A outer s H E B hr hgd => b_orders hB hC    hr hgd), hm, F.kp, hb⟩, runF_len⟩


/-! ### _law_is_standard -/
def f_is_standard : Sv Nat := (sSeq (sRet (eOp eqLD (eComp [1] (iRng2 (eC (.int 1)) (eB lenB (aCons (eVar 0) aNil))) (gNm 1) (tBl (eOp eqD (eOp subD (eOp idxD (eVar 0) (eVar 1)) (eOp idxD (eVar 0) (eOp subD (eVar 1) (eC (.int 1))))) (eC (.int 1)))) (eVar 1)) (eLst aNil)))
    sNil)
instance : MoS f_is_standard := by unfold f_is_standard; infer_instance
def F_is_standard : Fv Nat := runF 2 1 f_is_standard
instance : MoF F_is_standard := inferInstanceAs (MoF (runF 2 1 f_is_standard))
def M_is_standard : Nat → Bool := fun i => false
abbrev N_is_standard : List Str := ["_law_order", "_law_k"]
abbrev st_is_standard : Stmt := top 11
theorem sc_is_standard : FnScope N_is_standard ["_law_order"] (defScope st_is_standard) := ⟨rfl, rfl, rfl, by decide +kernel, rfl, by decide +kernel, by decide +kernel⟩
theorem b_is_standard {P : Program} {w : World} {K : PySem.W.Frag} {mg : Str → Option Value} {base : Heap} {cl xc : Nat → Addr} {xf : Nat → Str} {R f : Addr} {cdv : Value} {A : Around} {outer : List Env} {s : Shared} {H : Hp} {E : XK} {B : Bs} (hB : Blt mg) (hC : Cst mg)   
    (hr : Room 0 (A.deeper (envOfC "_law_is_standard" (defScope st_is_standard) s.heap.objs.size f cdv))) (hgd : (A.deeper (envOfC "_law_is_standard" (defScope st_is_standard) s.heap.objs.size f cdv)).guards = some []) :
    PSs (cxE P w K mg base N_is_standard "_law_is_standard" (defScope st_is_standard) f cdv A outer s H E) (defBody st_is_standard) (rdS (jsND K cl xc xf R) B M_is_standard (WD E) f_is_standard) := by
  have hu := hr.units
  have hv := hv_of hr
  have hK : K = (jsND K cl xc xf R).K := rfl
  have nd := sc_is_standard.nd
  have tk := takesE (P := P) (w := w) (K := K) (mg := mg) (base := base) (N := N_is_standard) (qual := "_law_is_standard") (scope := defScope st_is_standard) (f := f) (cd := cdv) (A := A) (outer := outer) (s := s) (H := H) (E := E)
  have ow := ownE (P := P) (w := w) (K := K) (mg := mg) (base := base) (N := N_is_standard) (qual := "_law_is_standard") (scope := defScope st_is_standard) (f := f) (cd := cdv) (A := A) (outer := outer) (s := s) (H := H) (E := E)
  exact (zC (s_ret (eCp (kEqL hK hu) s_eqL (toMixF (lcF [("_law_k", 1)] nd (blk_of N_is_standard (defScope st_is_standard) rfl rfl (by decide +kernel)) (iR2 (hB _ h_range) (toMixC cI) (toMixC (kLen hK (hB _ h_len) (aX (toMixC (xV 0)) aN)))) (fun _ _ _ _ _ => (gN 1 nd)) (fun _ _ _ _ _ => (ts1 (tCp (kEq hK hu) s_eq (toMixC (bSub (toMixC (ixC hK (xV 0) (xV 1))) (toMixC (ixC hK (xV 0) (bSub (toMixC (xV 1)) (toMixC cI)))))) (toMixC cI)))) (fun _ _ _ _ _ => (xV 1)))) (toMixF (lsF aN))))
    s_nil)
theorem ok_is_standard {P : Program} {w : World} {K : PySem.W.Frag} {mg : Str → Option Value} {base : Heap} {cl xc : Nat → Addr} {xf : Nat → Str} {R f : Addr} {fd : FuncData} (hB : Blt mg) (hC : Cst mg)   (F : L2.Fun K "_law_is_standard" "_law_is_standard" st_is_standard f fd) (hm : mg "_law_is_standard" = some (.ref f)) (hb : Binds K fd ["_law_order"] []) :
    Cal (jsND K cl xc xf R) P w mg base 1 "_law_is_standard" 1 F_is_standard :=
  ⟨⟨f, fd, ["_law_order"], fnG_D F sc_is_standard rfl (by decide) (fun cdv A outer s H E B hr hgd => b_is_standard hB hC    hr hgd), hm, F.kp, hb⟩, runF_len⟩


/-! ### _law_all -/
def f_all : Sv Nat := (sSeq (sSet 3 (eComp [6] (iSeq (eCall F_orders (aCons (eVar 1) aNil))) (gNm 6) (tOrD (tNotD (tOf (eVar 2))) (tOf (eCall F_is_standard (aCons (eVar 6) aNil)))) (eVar 6)))
    (sSeq (sSet 4 (eLst aNil))
    (sSeq (sFor (iSeq (eCall F_sizes (aCons (eVar 0) (aCons (eVar 1) aNil)))) (gNm 5) (sSeq (sExt 4 (eComp [6] (iSeq (eVar 3)) (gNm 6) tYesD (eTup (aCons (eVar 5) (aCons (eVar 6) aNil)))))
    sNil))
    (sSeq (sRet (eVar 4))
    sNil))))
instance : MoS f_all := by unfold f_all; infer_instance
def F_all : Fv Nat := runF 7 3 f_all
instance : MoF F_all := inferInstanceAs (MoF (runF 7 3 f_all))
def M_all : Nat → Bool := fun i => Nat.beq i 4
abbrev N_all : List Str := ["_law_n", "_law_blocks", "_law_only", "_law_orders_here", "_law_found", "_law_sizes_here", "_law_order"]
abbrev st_all : Stmt := top 12
theorem sc_all : FnScope N_all ["_law_n", "_law_blocks", "_law_only"] (defScope st_all) := ⟨rfl, rfl, rfl, by decide +kernel, rfl, by decide +kernel, by decide +kernel⟩
theorem b_all {P : Program} {w : World} {K : PySem.W.Frag} {mg : Str → Option Value} {base : Heap} {cl xc : Nat → Addr} {xf : Nat → Str} {R f : Addr} {cdv : Value} {A : Around} {outer : List Env} {s : Shared} {H : Hp} {E : XK} {B : Bs} (hB : Blt mg) (hC : Cst mg)  (C_is_standard : Cal (jsND K cl xc xf R) P w mg base 1 "_law_is_standard" 1 F_is_standard) (C_orders : Cal (jsND K cl xc xf R) P w mg base 1 "_law_orders" 1 F_orders) (C_sizes : Cal (jsND K cl xc xf R) P w mg base 9 "_law_sizes" 2 F_sizes) 
    (hr : Room 9 (A.deeper (envOfC "_law_all" (defScope st_all) s.heap.objs.size f cdv))) (hgd : (A.deeper (envOfC "_law_all" (defScope st_all) s.heap.objs.size f cdv)).guards = some []) :
    PSs (cxE P w K mg base N_all "_law_all" (defScope st_all) f cdv A outer s H E) (defBody st_all) (rdS (jsND K cl xc xf R) B M_all (WD E) f_all) := by
  have hu := hr.units
  have hv := hv_of hr
  have hK : K = (jsND K cl xc xf R).K := rfl
  have nd := sc_all.nd
  have tk := takesE (P := P) (w := w) (K := K) (mg := mg) (base := base) (N := N_all) (qual := "_law_all") (scope := defScope st_all) (f := f) (cd := cdv) (A := A) (outer := outer) (s := s) (H := H) (E := E)
  have ow := ownE (P := P) (w := w) (K := K) (mg := mg) (base := base) (N := N_all) (qual := "_law_all") (scope := defScope st_all) (f := f) (cd := cdv) (A := A) (outer := outer) (s := s) (H := H) (E := E)
  exact (zC (setLc 3 [("_law_order", 6)] nd (blk_of N_all (defScope st_all) rfl rfl (by decide +kernel)) (iSq hK (callC hK tk C_orders (hr.mono (by decide)) hgd (aC (xV 1) aN))) (fun _ _ _ _ _ => (gN 6 nd)) (fun _ _ _ _ _ => (ts1 (PW.pt (t_or (t_not (tTr hK (toMixC (xV 2)))) (t_or1 (tTr hK (toMixC (callC hK takesW0 C_is_standard (hr.mono (by decide)) hgd (aC (xV 6) aN))))))))) (fun _ _ _ _ _ => (xV 6)))
    (zC (zSetO 4 nd (lsF aN))
    (zC (zFor (iSq hK (callC hK tk C_sizes (hr.mono (by decide)) hgd (aC (xV 0) (aC (xV 1) aN)))) (gN 5 nd) (zC (zExt 4 (toClean (lcF [("_law_order", 6)] nd (blk_of N_all (defScope st_all) rfl rfl (by decide +kernel)) (iSq hK (xV 3)) (fun _ _ _ _ _ => (gN 6 nd)) (fun _ _ _ _ _ => ts0) (fun _ _ _ _ _ => (tpC (aC (xV 5) (aC (xV 6) aN)))))))
    s_nil) (hp := ow))
    (zC (s_ret (xO 4))
    s_nil))))
theorem ok_all {P : Program} {w : World} {K : PySem.W.Frag} {mg : Str → Option Value} {base : Heap} {cl xc : Nat → Addr} {xf : Nat → Str} {R f : Addr} {fd : FuncData} (hB : Blt mg) (hC : Cst mg)  (C_is_standard : Cal (jsND K cl xc xf R) P w mg base 1 "_law_is_standard" 1 F_is_standard) (C_orders : Cal (jsND K cl xc xf R) P w mg base 1 "_law_orders" 1 F_orders) (C_sizes : Cal (jsND K cl xc xf R) P w mg base 9 "_law_sizes" 2 F_sizes) (F : L2.Fun K "_law_all" "_law_all" st_all f fd) (hm : mg "_law_all" = some (.ref f)) (hb : Binds K fd ["_law_n", "_law_blocks", "_law_only"] []) :
    Cal (jsND K cl xc xf R) P w mg base 10 "_law_all" 3 F_all :=
  ⟨⟨f, fd, ["_law_n", "_law_blocks", "_law_only"], fnG_D F sc_all rfl (by decide) (fun cdv A outer s H E B hr hgd => b_all hB hC  C_is_standard C_orders C_sizes  hr hgd), hm, F.kp, hb⟩, runF_len⟩


/-! ### _law_small_right -/
def f_small_right : Sv Nat := (sSeq (sSet 2 (eIf (tBl (eOp leD (eVar 1) (eVar 0))) (eLst (aCons (eB lenB (aCons (eCall F_all (aCons (eVar 0) (aCons (eVar 1) (aCons (eC (.bl false)) aNil)))) aNil)) (aCons (eB lenB (aCons (eCall F_all (aCons (eVar 0) (aCons (eVar 1) (aCons (eC (.bl true)) aNil)))) aNil)) aNil))) (eLst (aCons (eC (.int 0)) (aCons (eC (.int 0)) aNil)))))
    (sSeq (sSet 3 (eLst (aCons (eCallD F_p_count_exchanges (.bl false) (aCons (eVar 0) (aCons (eVar 1) aNil))) (aCons (eCallK F_p_count_exchanges (aCons (eVar 0) (aCons (eVar 1) aNil)) (eC (.bl true))) aNil))))
    (sSeq (sRet (eAnd (eOp eqD (eB reprB (aCons (eVar 3) aNil)) (eB reprB (aCons (eVar 2) aNil))) (eOp eqD (eCallK F_p_count_exchanges (aCons (eVar 0) (aCons (eVar 1) aNil)) (eC (.bl false))) (eOp idxD (eVar 2) (eC (.int 0))))))
    sNil)))
instance : MoS f_small_right := by unfold f_small_right; infer_instance
def F_small_right : Fv Nat := runF 4 2 f_small_right
instance : MoF F_small_right := inferInstanceAs (MoF (runF 4 2 f_small_right))
def M_small_right : Nat → Bool := fun i => false
abbrev N_small_right : List Str := ["_law_n", "_law_blocks", "_law_due", "_law_found"]
abbrev st_small_right : Stmt := top 15
theorem sc_small_right : FnScope N_small_right ["_law_n", "_law_blocks"] (defScope st_small_right) := ⟨rfl, rfl, rfl, by decide +kernel, rfl, by decide +kernel, by decide +kernel⟩
theorem b_small_right {P : Program} {w : World} {K : PySem.W.Frag} {mg : Str → Option Value} {base : Heap} {cl xc : Nat → Addr} {xf : Nat → Str} {R f : Addr} {cdv : Value} {A : Around} {outer : List Env} {s : Shared} {H : Hp} {E : XK} {B : Bs} (hB : Blt mg) (hC : Cst mg)  (C_all : Cal (jsND K cl xc xf R) P w mg base 10 "_law_all" 3 F_all) (C_p_count_exchanges : CalK (jsND K cl xc xf R) P w mg base 4 "count_exchanges" 2 "standard" (.bl false) F_p_count_exchanges) 
    (hr : Room 10 (A.deeper (envOfC "_law_small_right" (defScope st_small_right) s.heap.objs.size f cdv))) (hgd : (A.deeper (envOfC "_law_small_right" (defScope st_small_right) s.heap.objs.size f cdv)).guards = some []) :
    PSs (cxE P w K mg base N_small_right "_law_small_right" (defScope st_small_right) f cdv A outer s H E) (defBody st_small_right) (rdS (jsND K cl xc xf R) B M_small_right (WD E) f_small_right) := by
  have hu := hr.units
  have hv := hv_of hr
  have hK : K = (jsND K cl xc xf R).K := rfl
  have nd := sc_small_right.nd
  have tk := takesE (P := P) (w := w) (K := K) (mg := mg) (base := base) (N := N_small_right) (qual := "_law_small_right") (scope := defScope st_small_right) (f := f) (cd := cdv) (A := A) (outer := outer) (s := s) (H := H) (E := E)
  have ow := ownE (P := P) (w := w) (K := K) (mg := mg) (base := base) (N := N_small_right) (qual := "_law_small_right") (scope := defScope st_small_right) (f := f) (cd := cdv) (A := A) (outer := outer) (s := s) (H := H) (E := E)
  exact (zC (zSet 2 nd (toClean (e_if (tCp (op_le) s_cmp (toMixC (xV 1)) (toMixC (xV 0))) (lsF (aC (kLen hK (hB _ h_len) (aX (toMixC (callC hK tk C_all (hr.mono (by decide)) hgd (aC (xV 0) (aC (xV 1) (aC cB aN))))) aN)) (aC (kLen hK (hB _ h_len) (aX (toMixC (callC hK tk C_all (hr.mono (by decide)) hgd (aC (xV 0) (aC (xV 1) (aC cB aN))))) aN)) aN))) (lsF (aC cI (aC cI aN))))))
    (zC (zSet 3 nd (toClean (lsF (aC (callD hK tk C_p_count_exchanges (hr.mono (by decide)) hgd (aC (xV 0) (aC (xV 1) aN))) (aC (callK hK tk C_p_count_exchanges (hr.mono (by decide)) hgd (aC (xV 0) (aC (xV 1) aN)) cB) aN)))))
    (zC (s_ret (e_and (k := true) hK (eCp (kEq hK hu) s_eq (toMixC (kRepr hK hgd hu (hB _ h_repr) (aX (toMixC (xV 3)) aN))) (toMixC (kRepr hK hgd hu (hB _ h_repr) (aX (toMixC (xV 2)) aN)))) (e_one (eCp (kEq hK hu) s_eq (toMixC (callK hK tk C_p_count_exchanges (hr.mono (by decide)) hgd (aC (xV 0) (aC (xV 1) aN)) cB)) (toMixC (ixC hK (xV 2) cI))))))
    s_nil)))
theorem ok_small_right {P : Program} {w : World} {K : PySem.W.Frag} {mg : Str → Option Value} {base : Heap} {cl xc : Nat → Addr} {xf : Nat → Str} {R f : Addr} {fd : FuncData} (hB : Blt mg) (hC : Cst mg)  (C_all : Cal (jsND K cl xc xf R) P w mg base 10 "_law_all" 3 F_all) (C_p_count_exchanges : CalK (jsND K cl xc xf R) P w mg base 4 "count_exchanges" 2 "standard" (.bl false) F_p_count_exchanges) (F : L2.Fun K "_law_small_right" "_law_small_right" st_small_right f fd) (hm : mg "_law_small_right" = some (.ref f)) (hb : Binds K fd ["_law_n", "_law_blocks"] []) :
    Cal (jsND K cl xc xf R) P w mg base 11 "_law_small_right" 2 F_small_right :=
  ⟨⟨f, fd, ["_law_n", "_law_blocks"], fnG_D F sc_small_right rfl (by decide) (fun cdv A outer s H E B hr hgd => b_small_right hB hC  C_all C_p_count_exchanges  hr hgd), hm, F.kp, hb⟩, runF_len⟩


/-! ### _law_choose -/
def f_choose : Sv Nat := (sSeq (sIf (tBl (eOp gtD (eVar 1) (eVar 0))) (sSeq (sRet (eC (.int 0)))
    sNil) sNil)
    (sSeq (sSet 2 (eC (.int 1)))
    (sSeq (sFor (iRng1 (eVar 1)) (gNm 3) (sSeq (sSet 2 (eOp fdivD (eOp mulD (eVar 2) (eOp subD (eVar 0) (eVar 3))) (eOp addD (eVar 3) (eC (.int 1)))))
    sNil))
    (sSeq (sRet (eVar 2))
    sNil))))
instance : MoS f_choose := by unfold f_choose; infer_instance
def F_choose : Fv Nat := runF 4 2 f_choose
instance : MoF F_choose := inferInstanceAs (MoF (runF 4 2 f_choose))
def M_choose : Nat → Bool := fun i => false
abbrev N_choose : List Str := ["_law_total", "_law_some", "_law_found", "_law_k"]
abbrev st_choose : Stmt := top 13
theorem sc_choose : FnScope N_choose ["_law_total", "_law_some"] (defScope st_choose) := ⟨rfl, rfl, rfl, by decide +kernel, rfl, by decide +kernel, by decide +kernel⟩
theorem b_choose {P : Program} {w : World} {K : PySem.W.Frag} {mg : Str → Option Value} {base : Heap} {cl xc : Nat → Addr} {xf : Nat → Str} {R f : Addr} {cdv : Value} {A : Around} {outer : List Env} {s : Shared} {H : Hp} {E : XK} {B : Bs} (hB : Blt mg) (hC : Cst mg)   
    (hr : Room 0 (A.deeper (envOfC "_law_choose" (defScope st_choose) s.heap.objs.size f cdv))) (hgd : (A.deeper (envOfC "_law_choose" (defScope st_choose) s.heap.objs.size f cdv)).guards = some []) :
    PSs (cxE P w K mg base N_choose "_law_choose" (defScope st_choose) f cdv A outer s H E) (defBody st_choose) (rdS (jsND K cl xc xf R) B M_choose (WD E) f_choose) := by
  have hu := hr.units
  have hv := hv_of hr
  have hK : K = (jsND K cl xc xf R).K := rfl
  have nd := sc_choose.nd
  have tk := takesE (P := P) (w := w) (K := K) (mg := mg) (base := base) (N := N_choose) (qual := "_law_choose") (scope := defScope st_choose) (f := f) (cd := cdv) (A := A) (outer := outer) (s := s) (H := H) (E := E)
  have ow := ownE (P := P) (w := w) (K := K) (mg := mg) (base := base) (N := N_choose) (qual := "_law_choose") (scope := defScope st_choose) (f := f) (cd := cdv) (A := A) (outer := outer) (s := s) (H := H) (E := E)
  exact (zC (s_if (tCp (op_gt) s_cmp (toMixC (xV 1)) (toMixC (xV 0))) (zC (s_ret cI)
    s_nil) s_nil)
    (zC (zSet 2 nd cI)
    (zC (zFor (iR1 (hB _ h_range) (toMixC (xV 1))) (gN 3 nd) (zC (zSet 2 nd (bDiv (toMixC (bMulC (xV 2) (bSub (toMixC (xV 0)) (toMixC (xV 3))))) (toMixC (bAddC hK (xV 3) cI))))
    s_nil) (hp := ow))
    (zC (s_ret (xV 2))
    s_nil))))
theorem ok_choose {P : Program} {w : World} {K : PySem.W.Frag} {mg : Str → Option Value} {base : Heap} {cl xc : Nat → Addr} {xf : Nat → Str} {R f : Addr} {fd : FuncData} (hB : Blt mg) (hC : Cst mg)   (F : L2.Fun K "_law_choose" "_law_choose" st_choose f fd) (hm : mg "_law_choose" = some (.ref f)) (hb : Binds K fd ["_law_total", "_law_some"] []) :
    Cal (jsND K cl xc xf R) P w mg base 1 "_law_choose" 2 F_choose :=
  ⟨⟨f, fd, ["_law_total", "_law_some"], fnG_D F sc_choose rfl (by decide) (fun cdv A outer s H E B hr hgd => b_choose hB hC    hr hgd), hm, F.kp, hb⟩, runF_len⟩


/-! ### _law_count -/
def f_count : Sv Nat := (sSeq (sSet 3 (eLst (aCons (eC (.int 1)) (aCons (eC (.int 1)) aNil))))
    (sSeq (sFor (iRng2 (eC (.int 2)) (eOp addD (eVar 1) (eC (.int 1)))) (gNm 4) (sSeq (sApp 3 (eOp idxD (eLst (aCons (eOp mulD (eVar 4) (eOp idxD (eVar 3) (eUn negD (eC (.int 1))))) (aCons (eOp addD (eOp mulD (eOp subD (eVar 4) (eC (.int 1))) (eOp idxD (eVar 3) (eUn negD (eC (.int 1))))) (eOp mulD (eOp subD (eVar 4) (eC (.int 2))) (eOp idxD (eVar 3) (eUn negD (eC (.int 2)))))) aNil))) (eB intB (aCons (eVar 2) aNil))))
    sNil))
    (sSeq (sRet (eOp mulD (eCall F_choose (aCons (eOp subD (eVar 0) (eC (.int 1))) (aCons (eOp subD (eVar 1) (eC (.int 1))) aNil))) (eOp idxD (eVar 3) (eVar 1))))
    sNil)))
instance : MoS f_count := by unfold f_count; infer_instance
def F_count : Fv Nat := runF 5 3 f_count
instance : MoF F_count := inferInstanceAs (MoF (runF 5 3 f_count))
def M_count : Nat → Bool := fun i => Nat.beq i 3
abbrev N_count : List Str := ["_law_n", "_law_blocks", "_law_only", "_law_orders_here", "_law_k"]
abbrev st_count : Stmt := top 14
theorem sc_count : FnScope N_count ["_law_n", "_law_blocks", "_law_only"] (defScope st_count) := ⟨rfl, rfl, rfl, by decide +kernel, rfl, by decide +kernel, by decide +kernel⟩
theorem b_count {P : Program} {w : World} {K : PySem.W.Frag} {mg : Str → Option Value} {base : Heap} {cl xc : Nat → Addr} {xf : Nat → Str} {R f : Addr} {cdv : Value} {A : Around} {outer : List Env} {s : Shared} {H : Hp} {E : XK} {B : Bs} (hB : Blt mg) (hC : Cst mg)  (C_choose : Cal (jsND K cl xc xf R) P w mg base 1 "_law_choose" 2 F_choose) 
    (hr : Room 1 (A.deeper (envOfC "_law_count" (defScope st_count) s.heap.objs.size f cdv))) (hgd : (A.deeper (envOfC "_law_count" (defScope st_count) s.heap.objs.size f cdv)).guards = some []) :
    PSs (cxE P w K mg base N_count "_law_count" (defScope st_count) f cdv A outer s H E) (defBody st_count) (rdS (jsND K cl xc xf R) B M_count (WD E) f_count) := by
  have hu := hr.units
  have hv := hv_of hr
  have hK : K = (jsND K cl xc xf R).K := rfl
  have nd := sc_count.nd
  have tk := takesE (P := P) (w := w) (K := K) (mg := mg) (base := base) (N := N_count) (qual := "_law_count") (scope := defScope st_count) (f := f) (cd := cdv) (A := A) (outer := outer) (s := s) (H := H) (E := E)
  have ow := ownE (P := P) (w := w) (K := K) (mg := mg) (base := base) (N := N_count) (qual := "_law_count") (scope := defScope st_count) (f := f) (cd := cdv) (A := A) (outer := outer) (s := s) (H := H) (E := E)
  exact (zC (zSetO 3 nd (lsF (aC cI (aC cI aN))))
    (zC (zFor (iR2 (hB _ h_range) (toMixC cI) (toMixC (bAddC hK (xV 1) cI))) (gN 4 nd) (zC (zApp 3 (ixC hK (toClean (lsF (aC (bMulC (xV 4) (ixO (i := 3) hK (toMixC (uNeg (toMixC cI))))) (aC (bAddC hK (bMulC (bSub (toMixC (xV 4)) (toMixC cI)) (ixO (i := 3) hK (toMixC (uNeg (toMixC cI))))) (bMulC (bSub (toMixC (xV 4)) (toMixC cI)) (ixO (i := 3) hK (toMixC (uNeg (toMixC cI)))))) aN)))) (kInt (hB _ h_int) (aX (toMixC (xV 2)) aN))))
    s_nil) (hp := ow))
    (zC (s_ret (bMulC (callC hK tk C_choose (hr.mono (by decide)) hgd (aC (bSub (toMixC (xV 0)) (toMixC cI)) (aC (bSub (toMixC (xV 1)) (toMixC cI)) aN))) (ixO (i := 3) hK (toMixC (xV 1)))))
    s_nil)))
theorem ok_count {P : Program} {w : World} {K : PySem.W.Frag} {mg : Str → Option Value} {base : Heap} {cl xc : Nat → Addr} {xf : Nat → Str} {R f : Addr} {fd : FuncData} (hB : Blt mg) (hC : Cst mg)  (C_choose : Cal (jsND K cl xc xf R) P w mg base 1 "_law_choose" 2 F_choose) (F : L2.Fun K "_law_count" "_law_count" st_count f fd) (hm : mg "_law_count" = some (.ref f)) (hb : Binds K fd ["_law_n", "_law_blocks", "_law_only"] []) :
    Cal (jsND K cl xc xf R) P w mg base 2 "_law_count" 3 F_count :=
  ⟨⟨f, fd, ["_law_n", "_law_blocks", "_law_only"], fnG_D F sc_count rfl (by decide) (fun cdv A outer s H E B hr hgd => b_count hB hC  C_choose  hr hgd), hm, F.kp, hb⟩, runF_len⟩


/-! ### the law -/


def f_law : Sv Nat := (sSeq (sFor (iRng1 (eC (.int 6))) (gNm 2) (sSeq (sIf (tNotD (tOf (eCall F_small_right (aCons (eOp addD (eC (.int 1)) (eCall drawF (aCons (eVar 1) (aCons (eC (.int 6)) aNil)))) (aCons (eOp addD (eC (.int 1)) (eCall drawF (aCons (eVar 1) (aCons (eOp idxD (eLst (aCons (eC (.int 4)) (aCons (eC (.int 6)) aNil))) (eOp modD (eVar 2) (eC (.int 2)))) aNil)))) aNil))))) (sSeq (sRet (eC (.bl false)))
    sNil) sNil)
    sNil))
    (sSeq (sFor (iRng1 (eC (.int 4))) (gNm 2) (sSeq (sPr2 3 4 (eOp addD (eC (.int 1)) (eCall drawF (aCons (eVar 1) (aCons (eOp idxD (eLst (aCons (eC (.int 12)) (aCons (eOp powD (eC (.int 10)) (eC (.int 12))) aNil))) (eOp modD (eVar 2) (eC (.int 2)))) aNil)))) (eOp addD (eC (.int 1)) (eCall drawF (aCons (eVar 1) (aCons (eC (.int 6)) aNil)))))
    (sSeq (sSet 5 (eLst (aCons (eCall F_count (aCons (eVar 3) (aCons (eVar 4) (aCons (eC (.bl false)) aNil)))) (aCons (eCall F_count (aCons (eVar 3) (aCons (eVar 4) (aCons (eC (.bl true)) aNil)))) aNil))))
    (sSeq (sFor (iRng1 (eC (.int 2))) (gNm 6) (sSeq (sIf (tBl (eOp neD (eB reprB (aCons (eLst (aCons (eCallD F_p_count_exchanges (.bl false) (aCons (eVar 3) (aCons (eVar 4) aNil))) (aCons (eCallK F_p_count_exchanges (aCons (eVar 3) (aCons (eVar 4) aNil)) (eC (.bl true))) aNil))) aNil)) (eB reprB (aCons (eVar 5) aNil)))) (sSeq (sRet (eC (.bl false)))
    sNil) sNil)
    sNil))
    sNil))))
    (sSeq (sRet (eOp eqD (eComp [7] (iSeq (eTup (aCons (eC (.int 1)) (aCons (eC (.int 2)) (aCons (eC (.int 8)) aNil))))) (gNm 7) tYesD (eCallK F_p_count_exchanges (aCons (eC (.int 8)) (aCons (eVar 7) aNil)) (eC (.bl true)))) (eLst (aCons (eC (.int 1)) (aCons (eC (.int 7)) (aCons (eC (.int 16687)) aNil))))))
    sNil)))
def M_law : Nat → Bool := fun i => false

abbrev N_law : List Str := ["_law_script", "_law_deal", "_law_turn", "_law_n", "_law_blocks", "_law_due", "_law_again", "_law_k"]
abbrev st_law : Stmt := top 16
theorem sc_law : FnScope N_law ["_law_script"] (defScope st_law) := ⟨rfl, rfl, rfl, by decide +kernel, rfl, by decide +kernel, by decide +kernel⟩
theorem b_law {P : Program} {w : World} {K : PySem.W.Frag} {mg : Str → Option Value} {base : Heap} {cl xc : Nat → Addr} {xf : Nat → Str} {R f : Addr} {cdv : Value} {A : Around} {outer : List Env} {s : Shared} {H : Hp} {E : XK} {B : Bs} (hB : Blt mg) (hC : Cst mg) (C_count : Cal (jsND K cl xc xf R) P w mg base 2 "_law_count" 3 F_count) (C_roll : Cal (jsND K cl xc xf R) P w mg base 1 "_law_roll" 2 drawF) (C_small_right : Cal (jsND K cl xc xf R) P w mg base 11 "_law_small_right" 2 F_small_right) (C_p_count_exchanges : CalK (jsND K cl xc xf R) P w mg base 4 "count_exchanges" 2 "standard" (.bl false) F_p_count_exchanges) 
    (hr : Room 11 (A.deeper (envOfC "law" (defScope st_law) s.heap.objs.size f cdv))) (hgd : (A.deeper (envOfC "law" (defScope st_law) s.heap.objs.size f cdv)).guards = some []) :
    PSs (cxF P w K mg base N_law "law" (defScope st_law) f cdv A outer s H E) (defBody st_law).tail (rdS (jsND K cl xc xf R) B M_law W0 f_law) := by
  have hu := hr.units
  have hv := hv_of hr
  have hK : K = (jsND K cl xc xf R).K := rfl
  have nd := sc_law.nd
  have tk := takesW0 (X := cxF P w K mg base N_law "law" (defScope st_law) f cdv A outer s H E)
  have ow : PassesOwn (model P w) (cxF P w K mg base N_law "law" (defScope st_law) f cdv A outer s H E).A (cxF P w K mg base N_law "law" (defScope st_law) f cdv A outer s H E).env (cxF P w K mg base N_law "law" (defScope st_law) f cdv A outer s H E).xe := PassesOwn.never
  exact (zC (zFor (iR1 (hB _ h_range) (toMixC cI)) (gN 2 nd) (zC (s_if (t_not (tTr hK (toMixC (callC hK tk C_small_right (hr.mono (by decide)) hgd (aC (bAddC hK cI (callC hK tk C_roll (hr.mono (by decide)) hgd (aC (xV 1) (aC cI aN)))) (aC (bAddC hK cI (callC hK tk C_roll (hr.mono (by decide)) hgd (aC (xV 1) (aC (ixC hK (toClean (lsF (aC cI (aC cI aN)))) (bMod (toMixC (xV 2)) (toMixC cI))) aN)))) aN)))))) (zC (s_ret cB)
    s_nil) s_nil)
    s_nil) (hp := ow))
    (zC (zFor (iR1 (hB _ h_range) (toMixC cI)) (gN 2 nd) (zC (zPr2 3 4 nd (clC (bAddC hK cI (callC hK tk C_roll (hr.mono (by decide)) hgd (aC (xV 1) (aC (ixC hK (toClean (lsF (aC cI (aC (bPow (toMixC cI) (toMixC cI)) aN)))) (bMod (toMixC (xV 2)) (toMixC cI))) aN))))) (clC (bAddC hK cI (callC hK tk C_roll (hr.mono (by decide)) hgd (aC (xV 1) (aC cI aN))))))
    (zC (zSet 5 nd (toClean (lsF (aC (callC hK tk C_count (hr.mono (by decide)) hgd (aC (xV 3) (aC (xV 4) (aC cB aN)))) (aC (callC hK tk C_count (hr.mono (by decide)) hgd (aC (xV 3) (aC (xV 4) (aC cB aN)))) aN)))))
    (zC (zFor (iR1 (hB _ h_range) (toMixC cI)) (gN 6 nd) (zC (s_if (tCp (kNe hK hu) s_ne (toMixC (kRepr hK hgd hu (hB _ h_repr) (aX (toMixF (lsF (aC (callD hK tk C_p_count_exchanges (hr.mono (by decide)) hgd (aC (xV 3) (aC (xV 4) aN))) (aC (callK hK tk C_p_count_exchanges (hr.mono (by decide)) hgd (aC (xV 3) (aC (xV 4) aN)) cB) aN)))) aN))) (toMixC (kRepr hK hgd hu (hB _ h_repr) (aX (toMixC (xV 5)) aN)))) (zC (s_ret cB)
    s_nil) s_nil)
    s_nil) (hp := ow))
    s_nil))) (hp := ow))
    (zC (s_ret (eCp (kEq hK hu) s_eq (toMixF (lcF [("_law_k", 7)] nd (blk_of N_law (defScope st_law) rfl rfl (by decide +kernel)) (iSq hK (tpC (aC cI (aC cI (aC cI aN))))) (fun _ _ _ _ _ => (gN 7 nd)) (fun _ _ _ _ _ => ts0) (fun _ _ _ _ _ => (callK hK takesW0 C_p_count_exchanges (hr.mono (by decide)) hgd (aC cI (aC (xV 7) aN)) cB)))) (toMixF (lsF (aC cI (aC cI (aC cI aN)))))))
    s_nil)))
end Lw
namespace Lw
open PySem L2 Mp

/-! ### rows of blocks: plain mathematics -/
/-- an item, 0 beyond the end -/
def gt (A : List Nat) (i : Nat) : Nat := A.getD i 0
theorem gt_eq {A : List Nat} {i : Nat} (h : i < A.length) : gt A i = A[i] := by unfold gt; rw [List.getD_eq_getElem?_getD, List.getElem?_eq_getElem h]; rfl
theorem gt_none {A : List Nat} {i : Nat} (h : A.length ≤ i) : gt A i = 0 := by unfold gt; rw [List.getD_eq_getElem?_getD, List.getElem?_eq_none h]; rfl
theorem gt_0 {a : Nat} {A : List Nat} : gt (a :: A) 0 = a := rfl
theorem gt_s {a : Nat} {A : List Nat} {i : Nat} : gt (a :: A) (i + 1) = gt A i := rfl
theorem gt_opt {A : List Nat} {i : Nat} (h : i < A.length) : A[i]? = some (gt A i) := by rw [gt_eq h, List.getElem?_eq_getElem h]
/-- where block i begins -/
def pre (A : List Nat) (i : Nat) : Nat := (A.take i).sum
/-- the block of a place -/
def blk : List Nat → Nat → Nat
  | [], _ => 0
  | a :: r, p => if p < a then 0 else blk r (p - a) + 1
theorem pre_0 {A : List Nat} : pre A 0 = 0 := rfl
theorem pre_cons {a : Nat} {A : List Nat} {i : Nat} : pre (a :: A) (i + 1) = a + pre A i := by unfold pre; simp
theorem pre_all {A : List Nat} {i : Nat} (h : A.length ≤ i) : pre A i = A.sum := by unfold pre; rw [List.take_of_length_le h]
theorem pre_succ {A : List Nat} {i : Nat} (h : i < A.length) : pre A (i + 1) = pre A i + gt A i := by
  unfold pre
  rw [List.take_add_one, List.sum_append, gt_opt h]
  simp
theorem pre_mono {A : List Nat} {i k : Nat} (h : i ≤ k) : pre A i ≤ pre A k := by
  induction k with
  | zero => have : i = 0 := by omega
            subst this; exact Nat.le_refl _
  | succ k ih =>
    by_cases e : i = k + 1
    · subst e; exact Nat.le_refl _
    · have h1 := ih (by omega)
      by_cases hk : k < A.length
      · rw [pre_succ hk]; omega
      · rw [pre_all (i := k + 1) (by omega), ← pre_all (A := A) (i := k) (by omega)]; exact h1
theorem pre_le {A : List Nat} (i : Nat) : pre A i ≤ A.sum := by
  by_cases h : i ≤ A.length
  · rw [← pre_all (A := A) (Nat.le_refl _)]; exact pre_mono h
  · rw [pre_all (by omega)]; exact Nat.le_refl _
theorem pre_lt {A : List Nat} (hp : ∀ x ∈ A, 0 < x) {i k : Nat} (h : i < k) (hk : k ≤ A.length) : pre A i < pre A k := by
  have h1 : pre A (i + 1) ≤ pre A k := pre_mono (by omega)
  rw [pre_succ (by omega)] at h1
  have : 0 < gt A i := by
    rw [gt_eq (by omega)]
    exact hp _ (List.getElem_mem _)
  omega
theorem blk_spec : ∀ {A : List Nat} {p : Nat}, p < A.sum → blk A p < A.length ∧ pre A (blk A p) ≤ p ∧ p < pre A (blk A p) + gt A (blk A p)
  | [], p, h => by simp at h
  | a :: r, p, h => by
    unfold blk
    by_cases c : p < a
    · rw [if_pos c, gt_0]; simp [pre]; exact c
    · rw [if_neg c]
      have := blk_spec (A := r) (p := p - a) (by simp at h; omega)
      rw [pre_cons]
      simp only [List.length_cons, gt_s]
      omega
theorem blk_uniq : ∀ {A : List Nat} {p i : Nat}, pre A i ≤ p → p < pre A i + gt A i → blk A p = i
  | [], p, i, h1, h2 => by
    rw [gt_none (Nat.zero_le _)] at h2; omega
  | a :: r, p, 0, h1, h2 => by
    rw [gt_0] at h2
    simp [pre] at h2
    unfold blk; rw [if_pos h2]
  | a :: r, p, i + 1, h1, h2 => by
    rw [pre_cons] at h1 h2
    rw [gt_s] at h2
    unfold blk
    rw [if_neg (by omega), blk_uniq (i := i) (by omega) (by omega)]
theorem blk_at {A : List Nat} {i r : Nat} (h : r < gt A i) : blk A (pre A i + r) = i := blk_uniq (by omega) (by omega)
theorem getD_pos {A : List Nat} (hp : ∀ x ∈ A, 0 < x) {i : Nat} (h : i < A.length) : 0 < gt A i := by
  rw [gt_eq h]
  exact hp _ (List.getElem_mem _)
theorem at_lt {A : List Nat} {i r : Nat} (h : r < gt A i) : pre A i + r < A.sum := by
  have hi : i < A.length := by
    by_cases c : i < A.length
    · exact c
    · rw [gt_none (by omega)] at h; omega
  have := pre_succ hi
  have := pre_le (A := A) (i + 1)
  omega
/-- blocks and an order of them -/
structure IsX (L O : List Nat) : Prop where
  len : L.length = O.length
  ne : 0 < O.length
  perm : O.Perm (List.range O.length)
  pos : ∀ x ∈ L, 0 < x
section
variable {L O : List Nat}
theorem IsX.nodup (h : IsX L O) : O.Nodup := h.perm.nodup_iff.mpr List.nodup_range
theorem IsX.lt (h : IsX L O) {b : Nat} (hb : b ∈ O) : b < O.length := List.mem_range.mp (h.perm.mem_iff.mp hb)
theorem IsX.mem (h : IsX L O) {b : Nat} (hb : b < O.length) : b ∈ O := h.perm.mem_iff.mpr (List.mem_range.mpr hb)
theorem IsX.ix (h : IsX L O) {b : Nat} (hb : b < O.length) : O.idxOf b < O.length := List.idxOf_lt_length_of_mem (h.mem hb)
theorem IsX.at_ix (h : IsX L O) {b : Nat} (hb : b < O.length) : O[O.idxOf b]'(h.ix hb) = b := List.getElem_idxOf _
theorem IsX.ix_at (h : IsX L O) {i : Nat} (hi : i < O.length) : O.idxOf O[i] = i := h.nodup.idxOf_getElem i hi
/-- the lengths in the order after a step -/
def loA (L O : List Nat) : List Nat := O.map fun b => gt L b
theorem loA_len : (loA L O).length = O.length := by unfold loA; simp
theorem loA_at {i : Nat} (h : i < O.length) : gt (loA L O) i = gt L O[i] := by
  unfold loA; rw [gt_eq (by simpa using h)]; simp
theorem IsX.loA_ix (h : IsX L O) {b : Nat} (hb : b < O.length) : gt (loA L O) (O.idxOf b) = gt L b := by rw [loA_at (h.ix hb), h.at_ix hb]
theorem map_getD_range : ∀ (L : List Nat), (List.range L.length).map (fun b => gt L b) = L := fun L => by
  apply List.ext_getElem
  · simp
  · intro i h1 h2; simp at h1 ⊢
    exact gt_eq h2
theorem IsX.sum (h : IsX L O) : (loA L O).sum = L.sum := by
  unfold loA
  have := (h.perm.map fun b => gt L b).sum_nat
  rw [this, ← h.len, map_getD_range]
theorem IsX.lo_pos (h : IsX L O) : ∀ x ∈ loA L O, 0 < x := fun x hx => by
  obtain ⟨b, hb, rfl⟩ := List.mem_map.mp hx
  exact getD_pos h.pos (by rw [h.len]; exact h.lt hb)
/-- where the block b begins after a step -/
def aft (L O : List Nat) (b : Nat) : Nat := pre (loA L O) (O.idxOf b)
/-- a step -/
def T (L O : List Nat) (p : Nat) : Nat := aft L O (blk L p) + (p - pre L (blk L p))
theorem T_at {b r : Nat} (h : r < gt L b) : T L O (pre L b + r) = aft L O b + r := by
  unfold T; rw [blk_at h]; omega
theorem IsX.blk_lt (h : IsX L O) {p : Nat} (hp : p < L.sum) : blk L p < O.length := by rw [← h.len]; exact (blk_spec hp).1
theorem IsX.T_lt (h : IsX L O) {p : Nat} (hp : p < L.sum) : T L O p < L.sum := by
  obtain ⟨h1, h2, h3⟩ := blk_spec hp
  have hb := h.blk_lt hp
  have := at_lt (A := loA L O) (i := O.idxOf (blk L p)) (r := p - pre L (blk L p)) (by rw [h.loA_ix hb]; omega)
  rw [h.sum] at this
  exact this
theorem IsX.T_blk (h : IsX L O) {p : Nat} (hp : p < L.sum) : blk (loA L O) (T L O p) = O.idxOf (blk L p) ∧ T L O p - pre (loA L O) (O.idxOf (blk L p)) = p - pre L (blk L p) := by
  obtain ⟨h1, h2, h3⟩ := blk_spec hp
  have hb := h.blk_lt hp
  unfold T aft
  refine ⟨blk_at (by rw [h.loA_ix hb]; omega), by omega⟩
theorem IsX.T_inj (h : IsX L O) {p q : Nat} (hp : p < L.sum) (hq : q < L.sum) (e : T L O p = T L O q) : p = q := by
  obtain ⟨a1, a2⟩ := h.T_blk hp
  obtain ⟨b1, b2⟩ := h.T_blk hq
  rw [e] at a1 a2
  rw [b1] at a1
  have e1 : blk L q = blk L p := by
    have c1 := h.at_ix (h.blk_lt hp)
    have c2 := h.at_ix (h.blk_lt hq)
    rw [← c1, ← c2]
    simp only [a1]
  rw [e1] at b2
  have := (blk_spec hp).2.1
  have := (blk_spec hq).2.1
  rw [e1] at this
  omega
/-! the exchange back -/
def invO (O : List Nat) : List Nat := (List.range O.length).map fun b => O.idxOf b
theorem few_of : ∀ (k : Nat) (O : List Nat), O.Nodup → (∀ x ∈ O, x < k) → O.length ≤ k
  | 0, O, _, lt => by
    cases O with
    | nil => exact Nat.le_refl _
    | cons a r => exact absurd (lt a List.mem_cons_self) (Nat.not_lt_zero _)
  | k + 1, O, nd, lt => by
    by_cases hk : k ∈ O
    · have h1 := few_of k (O.erase k) (nd.erase k) fun x hx => by
        have h2 := (nd.mem_erase_iff.mp hx)
        have := lt x h2.2
        omega
      rw [List.length_erase_of_mem hk] at h1
      omega
    · have := few_of k O nd fun x hx => by
        have h1 := lt x hx
        have h2 : x ≠ k := fun z => hk (z ▸ hx)
        omega
      omega
theorem perm_of : ∀ (k : Nat) (O : List Nat), O.Nodup → (∀ x ∈ O, x < k) → O.length = k → O.Perm (List.range k)
  | 0, O, _, _, l => by
    rw [List.length_eq_zero_iff.mp l]; exact List.Perm.refl _
  | k + 1, O, nd, lt, l => by
    by_cases hk : k ∈ O
    · have h1 := perm_of k (O.erase k) (nd.erase k) (fun x hx => by
        have h2 := (nd.mem_erase_iff.mp hx)
        have := lt x h2.2
        omega) (by rw [List.length_erase_of_mem hk]; omega)
      rw [List.range_succ]
      exact (List.perm_cons_erase hk).trans ((List.Perm.cons k h1).trans (List.perm_append_singleton k _).symm)
    · have := few_of k O nd fun x hx => by
        have h1 := lt x hx
        have h2 : x ≠ k := fun z => hk (z ▸ hx)
        omega
      omega
theorem invO_len : (invO O).length = O.length := by unfold invO; simp
theorem invO_at {b : Nat} (h : b < O.length) : (invO O)[b]'(by rw [invO_len]; exact h) = O.idxOf b := by unfold invO; simp
theorem IsX.invO_nd (h : IsX L O) : (invO O).Nodup := by
  unfold invO
  refine List.pairwise_map.mpr (List.Pairwise.imp_of_mem (fun {a b} ha hb hab z => hab ?_) List.nodup_range)
  rw [← h.at_ix (List.mem_range.mp ha), ← h.at_ix (List.mem_range.mp hb)]
  simp only [z]
theorem IsX.inv (h : IsX L O) : IsX (loA L O) (invO O) := by
  refine ⟨by rw [loA_len, invO_len], by rw [invO_len]; exact h.ne, ?_, h.lo_pos⟩
  rw [invO_len]
  refine perm_of _ _ h.invO_nd (fun x hx => ?_) invO_len
  obtain ⟨b, hb, rfl⟩ := List.mem_map.mp hx
  exact h.ix (List.mem_range.mp hb)
theorem IsX.inv_ix (h : IsX L O) {i : Nat} (hi : i < O.length) : (invO O).idxOf i = O[i] := by
  have hb := h.lt (List.getElem_mem hi)
  have e : (invO O)[O[i]]'(by rw [invO_len]; exact hb) = i := by rw [invO_at hb]; exact h.ix_at hi
  have := h.inv.ix_at (i := O[i]) (by rw [invO_len]; exact hb)
  rw [e] at this
  exact this
theorem IsX.inv_lo (h : IsX L O) : loA (loA L O) (invO O) = L := by
  apply List.ext_getElem
  · rw [loA_len, invO_len, h.len]
  · intro i h1 h2
    have hi : i < O.length := by rw [loA_len, invO_len] at h1; exact h1
    have e1 := loA_at (L := loA L O) (O := invO O) (i := i) (by rw [invO_len]; exact hi)
    rw [gt_eq h1, invO_at hi, h.loA_ix hi, gt_eq h2] at e1
    exact e1
theorem IsX.inv_inv (h : IsX L O) : invO (invO O) = O := by
  apply List.ext_getElem
  · rw [invO_len, invO_len]
  · intro i h1 h2
    rw [invO_at (by rw [invO_len]; exact h2), h.inv_ix h2]
/-- a step of the exchange back leads back -/
theorem IsX.T_back (h : IsX L O) {p : Nat} (hp : p < L.sum) : T (loA L O) (invO O) (T L O p) = p := by
  obtain ⟨a1, a2⟩ := h.T_blk hp
  have hb := h.blk_lt hp
  have := (blk_spec hp).2.1
  show aft (loA L O) (invO O) (blk (loA L O) (T L O p)) + (T L O p - pre (loA L O) (blk (loA L O) (T L O p))) = p
  rw [a1, a2]
  unfold aft
  rw [h.inv_lo, h.inv_ix (h.ix hb), h.at_ix hb]
  omega
theorem IsX.T_forth (h : IsX L O) {p : Nat} (hp : p < L.sum) : T L O (T (loA L O) (invO O) p) = p := by
  have := h.inv.T_back (p := p) (by rw [h.sum]; exact hp)
  rwa [h.inv_lo, h.inv_inv] at this
theorem IsX.g_lt (h : IsX L O) {k : Nat} (hk : k < O.length) : gt O k < O.length := by rw [gt_eq hk]; exact h.lt (List.getElem_mem hk)
theorem IsX.g_ix (h : IsX L O) {k : Nat} (hk : k < O.length) : O.idxOf (gt O k) = k := by rw [gt_eq hk]; exact h.ix_at hk
theorem IsX.ix_g (h : IsX L O) {b : Nat} (hb : b < O.length) : gt O (O.idxOf b) = b := by rw [gt_eq (h.ix hb)]; exact h.at_ix hb
theorem loA_g {k : Nat} (hk : k < O.length) : gt (loA L O) k = gt L (gt O k) := by rw [loA_at hk, gt_eq hk]
theorem invO_g {b : Nat} (hb : b < O.length) : gt (invO O) b = O.idxOf b := by rw [gt_eq (by rw [invO_len]; exact hb)]; exact invO_at hb
/-- the shift of a block -/
def sft (L O : List Nat) (b : Nat) : Int := (aft L O b : Int) - (pre L b : Int)
theorem IsX.T_sft (h : IsX L O) {p : Nat} (hp : p < L.sum) : (T L O p : Int) = (p : Int) + sft L O (blk L p) := by
  have := (blk_spec hp).2.1
  unfold T sft
  omega
end

/-! ### data of ints -/
def dN (O : List Nat) : List D := O.map fun n => .int ((n : Nat) : Int)
def dI (xs : List Int) : List D := xs.map D.int
abbrev tN (O : List Nat) : D := .tup (dN O)
abbrev lN (O : List Nat) : D := .lst (dN O)
abbrev tZ (O : List Int) : D := .tup (dI O)
abbrev lZ (O : List Int) : D := .lst (dI O)
abbrev exD (L O : List Nat) : D := .tup [tN L, tN O]
def zN (O : List Nat) : List Int := O.map fun n => ((n : Nat) : Int)
theorem dN_z (O : List Nat) : dN O = dI (zN O) := by unfold dN dI zN; rw [List.map_map]; rfl
theorem zN_inj : ∀ {A B : List Nat}, zN A = zN B → A = B
  | [], [], _ => rfl
  | a :: A, b :: B, h => by
    have h1 := List.cons.inj (show (a : Int) :: zN A = (b : Int) :: zN B from h)
    rw [zN_inj h1.2]
    have : a = b := by exact_mod_cast h1.1
    rw [this]
  | [], _ :: _, h => by cases h
  | _ :: _, [], h => by cases h
@[simp] theorem dN_len {O : List Nat} : (dN O).length = O.length := by unfold dN; simp
@[simp] theorem dI_len {O : List Int} : (dI O).length = O.length := by unfold dI; simp
@[simp] theorem dN_nil : dN [] = [] := rfl
@[simp] theorem dI_nil : dI [] = [] := rfl
@[simp] theorem zN_len {O : List Nat} : (zN O).length = O.length := by unfold zN; simp
theorem dN_snoc {O : List Nat} {n : Nat} : dN O ++ [.int (n : Int)] = dN (O ++ [n]) := by unfold dN; simp
theorem dI_snoc {O : List Int} {n : Int} : dI O ++ [.int n] = dI (O ++ [n]) := by unfold dI; simp
theorem dN_app {O U : List Nat} : dN O ++ dN U = dN (O ++ U) := by unfold dN; simp
theorem dI_app {O U : List Int} : dI O ++ dI U = dI (O ++ U) := by unfold dI; simp
theorem dN_get {O : List Nat} {i : Nat} (h : i < O.length) : (dN O)[i]? = some (.int (gt O i : Nat)) := by unfold dN; simp [gt_opt h]
theorem dN_at {O : List Nat} {i : Nat} {d : D} (h : (dN O)[i]? = some d) : i < O.length ∧ d = .int (gt O i : Nat) := by
  have hlt := (List.getElem?_eq_some_iff.mp h).1
  rw [dN_len] at hlt
  rw [dN_get hlt] at h
  exact ⟨hlt, (Option.some.inj h).symm⟩
/-- an item of a list of ints -/
def gz (A : List Int) (i : Nat) : Int := A.getD i 0
theorem gz_eq {A : List Int} {i : Nat} (h : i < A.length) : gz A i = A[i] := by unfold gz; rw [List.getD_eq_getElem?_getD, List.getElem?_eq_getElem h]; rfl
theorem gz_opt {A : List Int} {i : Nat} (h : i < A.length) : A[i]? = some (gz A i) := by rw [gz_eq h, List.getElem?_eq_getElem h]
theorem dI_get {O : List Int} {i : Nat} (h : i < O.length) : (dI O)[i]? = some (.int (gz O i)) := by unfold dI; simp [gz_opt h]
theorem dI_at {O : List Int} {i : Nat} {d : D} (h : (dI O)[i]? = some d) : i < O.length ∧ d = .int (gz O i) := by
  have hlt := (List.getElem?_eq_some_iff.mp h).1
  rw [dI_len] at hlt
  rw [dI_get hlt] at h
  exact ⟨hlt, (Option.some.inj h).symm⟩
theorem dI_set {O : List Int} {i : Nat} {x : Int} : (dI O).set i (.int x) = dI (O.set i x) := by unfold dI; rw [List.map_set]
theorem dN_set {O : List Nat} {i : Nat} {x : Nat} : (dN O).set i (.int (x : Int)) = dN (O.set i x) := by unfold dN; rw [List.map_set]
theorem er_map {α β : Type} {f : α → β} : ∀ {xs : List α} {i : Nat}, (xs.map f).eraseIdx i = (xs.eraseIdx i).map f
  | [], _ => rfl
  | x :: r, 0 => rfl
  | x :: r, i + 1 => by
    show f x :: (r.map f).eraseIdx i = f x :: (r.eraseIdx i).map f
    rw [er_map]
theorem dN_erase {O : List Nat} {i : Nat} : (dN O).eraseIdx i = dN (O.eraseIdx i) := by unfold dN; rw [er_map]
theorem dI_erase {O : List Int} {i : Nat} : (dI O).eraseIdx i = dI (O.eraseIdx i) := by unfold dI; rw [er_map]
theorem dN_rev {O : List Nat} : (dN O).reverse = dN O.reverse := by unfold dN; rw [List.map_reverse]
theorem dI_rev {O : List Int} : (dI O).reverse = dI O.reverse := by unfold dI; rw [List.map_reverse]
theorem dN_take {O : List Nat} {k : Nat} : (dN O).take k = dN (O.take k) := by unfold dN; rw [List.map_take]
theorem dN_drop {O : List Nat} {k : Nat} : (dN O).drop k = dN (O.drop k) := by unfold dN; rw [List.map_drop]
theorem dI_take {O : List Int} {k : Nat} : (dI O).take k = dI (O.take k) := by unfold dI; rw [List.map_take]
theorem dI_drop {O : List Int} {k : Nat} : (dI O).drop k = dI (O.drop k) := by unfold dI; rw [List.map_drop]
theorem rng_N {k : Nat} : rngD 0 k = dN (List.range k) := by rw [nrng]; rfl
theorem sum_z : ∀ (L : List Nat), (zN L).sum = ((L.sum : Nat) : Int)
  | [] => rfl
  | a :: r => by
    have := sum_z r
    show (a : Int) + (zN r).sum = _
    rw [this, List.sum_cons]; omega
theorem sum_tI {xs : List Int} : sumB [tZ xs] = some (.int xs.sum) := by
  show (match ints? (dI xs) with | some ns => some (D.int ns.sum) | none => none) = _
  unfold dI
  rw [ints?_map]
theorem sum_lI {xs : List Int} : sumB [lZ xs] = some (.int xs.sum) := by
  show (match ints? (dI xs) with | some ns => some (D.int ns.sum) | none => none) = _
  unfold dI
  rw [ints?_map]
@[simp] theorem sum_tN {L : List Nat} : sumB [tN L] = some (.int (L.sum : Nat)) := by
  show sumB [.tup (dN L)] = _
  rw [dN_z]; exact sum_tI.trans (by rw [sum_z])
@[simp] theorem sum_lN {L : List Nat} : sumB [lN L] = some (.int (L.sum : Nat)) := by
  show sumB [.lst (dN L)] = _
  rw [dN_z]; exact sum_lI.trans (by rw [sum_z])
theorem ix_t {O : List Nat} {i : Nat} (h : i < O.length) : idxD (tN O) (.int ((i : Nat) : Int)) = some (.int (gt O i : Nat)) := idx_t (dN_get h)
theorem ix_l {O : List Nat} {i : Nat} (h : i < O.length) : idxD (lN O) (.int ((i : Nat) : Int)) = some (.int (gt O i : Nat)) := idx_l (dN_get h)
theorem ix_tz {xs : List Int} {i : Nat} (h : i < xs.length) : idxD (tZ xs) (.int ((i : Nat) : Int)) = some (.int (gz xs i)) := idx_t (dI_get h)
theorem ix_lz {xs : List Int} {i : Nat} (h : i < xs.length) : idxD (lZ xs) (.int ((i : Nat) : Int)) = some (.int (gz xs i)) := idx_l (dI_get h)
theorem atI_neg1 {α : Type} {xs : List α} {x : α} (h : xs.getLast? = some x) : atI xs (-1) = some x := by
  have hne : 0 < xs.length := by
    cases xs with
    | nil => cases h
    | cons a r => simp
  have hx : ixN xs.length (-1) = some (xs.length - 1) := by
    unfold ixN
    rw [if_neg (by decide), if_pos (by omega)]
    congr 1
    omega
  unfold atI
  rw [hx, Option.bind_some, ← List.getLast?_eq_getElem?]
  exact h
theorem ixN_nat {n i : Nat} (h : i < n) : ixN n ((i : Nat) : Int) = some i := by
  unfold ixN
  rw [if_pos (Int.natCast_nonneg _), if_pos (by omega), Int.toNat_natCast]
theorem idxOf?_z : ∀ {O : List Nat} {b : Nat}, b ∈ O → (zN O).idxOf? ((b : Nat) : Int) = some (O.idxOf b)
  | a :: O, b, h => by
    show (((a : Nat) : Int) :: zN O).idxOf? ((b : Nat) : Int) = _
    rw [List.idxOf?_cons, List.idxOf_cons]
    by_cases c : a = b
    · subst c; simp
    · have c1 : (((a : Nat) : Int) == ((b : Nat) : Int)) = false := by simpa using fun z : (a : Int) = (b : Int) => c (by exact_mod_cast z)
      have c2 : (a == b) = false := by simpa using c
      rw [c1, c2]
      have hb : b ∈ O := by
        rcases List.mem_cons.mp h with rfl | h
        · exact absurd rfl c
        · exact h
      simp only [Bool.false_eq_true, if_false, idxOf?_z hb, Option.map_some, cond_false]
theorem index_t {O : List Nat} {b : Nat} (h : b ∈ O) : indexD (tN O) (.int ((b : Nat) : Int)) = some (.int ((O.idxOf b : Nat) : Int)) := by
  show (match ints? (dN O) with | some ns => idxL ns _ | none => none) = _
  rw [dN_z]
  unfold dI
  rw [ints?_map]
  show idxL (zN O) _ = _
  unfold idxL
  rw [idxOf?_z h]
theorem index_l {O : List Nat} {b : Nat} (h : b ∈ O) : indexD (lN O) (.int ((b : Nat) : Int)) = some (.int ((O.idxOf b : Nat) : Int)) := index_t h
@[simp] theorem ix_0 {a b : D} : idxD (.tup [a, b]) (.int 0) = some a := rfl
@[simp] theorem ix_1 {a b : D} : idxD (.tup [a, b]) (.int 1) = some b := rfl
theorem LN : LINE = 1000000 := rfl
theorem LM : LIM = 2305843009213693952 := rfl
theorem N_M : NMAX = 1000000000 := rfl
theorem wC_N {J : Type} {f : Ev J} [MoE f] {wm : Sd} {γ : Gv} {j : J} {P : List D → J → Prop} {O : List Nat} (h : Nat → D) (hs : ∀ x ∈ O, ∃ m1, γ (.int ((x : Nat) : Int)) wm = some m1 ∧ f m1 j (fun y j2 => y = h x ∧ j2 = j) xNo) (hd : P (O.map h) j) : WC wm γ tYesD f (dN O) j P := wC_map h hs hd
theorem wC_NF {J : Type} {f : Ev J} {t : Tv J} [MoT t] [MoE f] {wm : Sd} {γ : Gv} {j : J} {P : List D → J → Prop} {O : List Nat} (p : Nat → Bool) (h : Nat → D) (hs : ∀ x ∈ O, ∃ m1, γ (.int ((x : Nat) : Int)) wm = some m1 ∧ t m1 j (fun b j1 => b = p x ∧ j1 = j) xNo ∧ (p x = true → f m1 j (fun y j2 => y = h x ∧ j2 = j) xNo)) (hd : P ((O.filter p).map h) j) : WC wm γ t f (dN O) j P := wC_filter p h hs hd
/-- where the blocks begin -/
def begs (L : List Nat) : List Nat := (List.range L.length).map (pre L)
theorem begs_len {L : List Nat} : (begs L).length = L.length := by unfold begs; simp
theorem begs_at {L : List Nat} {i : Nat} (h : i < L.length) : gt (begs L) i = pre L i := by rw [gt_eq (by rw [begs_len]; exact h)]; unfold begs; simp
/-- the shifts of the blocks -/
def sfts (L O : List Nat) : List Int := (List.range O.length).map (sft L O)
theorem sfts_len {L O : List Nat} : (sfts L O).length = O.length := by unfold sfts; simp
theorem sfts_at {L O : List Nat} {b : Nat} (h : b < O.length) : gz (sfts L O) b = sft L O b := by rw [gz_eq (by rw [sfts_len]; exact h)]; unfold sfts; simp
theorem ext_gz {A B : List Int} (hl : A.length = B.length) (h : ∀ i, i < A.length → gz A i = gz B i) : A = B := by
  apply List.ext_getElem hl
  intro i h1 h2
  have := h i h1
  rwa [gz_eq h1, gz_eq h2] at this
theorem ext_gt {A B : List Nat} (hl : A.length = B.length) (h : ∀ i, i < A.length → gt A i = gt B i) : A = B := by
  apply List.ext_getElem hl
  intro i h1 h2
  have := h i h1
  rwa [gt_eq h1, gt_eq h2] at this
theorem gz_set {A : List Int} {i k : Nat} {x : Int} (h : i < A.length) : gz (A.set i x) k = if k = i then x else gz A k := by
  unfold gz
  rw [List.getD_eq_getElem?_getD, List.getD_eq_getElem?_getD]
  by_cases e : k = i
  · subst e; rw [if_pos rfl, List.getElem?_set_self h]; rfl
  · rw [if_neg e, List.getElem?_set_ne (fun z => e z.symm)]
theorem gt_set {A : List Nat} {i k : Nat} {x : Nat} (h : i < A.length) : gt (A.set i x) k = if k = i then x else gt A k := by
  unfold gt
  rw [List.getD_eq_getElem?_getD, List.getD_eq_getElem?_getD]
  by_cases e : k = i
  · subst e; rw [if_pos rfl, List.getElem?_set_self h]; rfl
  · rw [if_neg e, List.getElem?_set_ne (fun z => e z.symm)]
theorem rep_z {n : Nat} {a : Int} (h : n ≤ 1000000) : mulL (.lst [.int a]) (.int (n : Nat)) = some (lZ (List.replicate n a)) := by
  show (if _ then some (D.lst (rep (Int.toNat (n : Nat)) [.int a])) else none) = _
  rw [if_pos (by simp [LN]; omega)]
  unfold rep
  rw [Int.toNat_natCast]
  show _ = some (D.lst ((List.replicate n a).map D.int))
  simp

/-! ### slices, ==, in, sorted, repr -/
@[simp] theorem tru_bl {b : Bool} : truD (.bl b) = some b := rfl
@[simp] theorem cut_take {xs : List D} {k : Nat} : cutD xs none (some ((k : Nat) : Int)) = xs.take k := by
  unfold cutD
  have e1 : HT.sIx xs.length 0 none = 0 := rfl
  rw [e1, HT.sIx_nat, List.drop_zero, Nat.sub_zero]
  by_cases h : k ≤ xs.length
  · rw [Nat.min_eq_left h]
  · rw [Nat.min_eq_right (by omega), List.take_length, List.take_of_length_le (by omega)]
@[simp] theorem cut_drop {xs : List D} {k : Nat} : cutD xs (some ((k : Nat) : Int)) none = xs.drop k := by
  unfold cutD
  have e1 : HT.sIx xs.length xs.length none = xs.length := rfl
  rw [e1, HT.sIx_nat]
  by_cases h : k ≤ xs.length
  · rw [Nat.min_eq_left h, List.take_of_length_le (by simp)]
  · rw [Nat.min_eq_right (by omega), List.drop_length, List.drop_eq_nil_of_le (by omega)]; simp
@[simp] theorem cut_drop1 {xs : List D} : cutD xs (some 1) none = xs.drop 1 := cut_drop (k := 1)
@[simp] theorem cut_take1 {xs : List D} : cutD xs none (some 1) = xs.take 1 := cut_take (k := 1)
theorem cut_mid {xs : List D} {b e : Nat} (he : e ≤ xs.length) (hb : b ≤ e) : cutD xs (some ((b : Nat) : Int)) (some ((e : Nat) : Int)) = (xs.drop b).take (e - b) := by
  unfold cutD
  rw [HT.sIx_nat, HT.sIx_nat, Nat.min_eq_left he, Nat.min_eq_left (by omega)]
@[simp] theorem slice_t {xs : List D} {a b : Option Int} : sliceD (.tup xs) a b = some (.tup (cutD xs a b)) := rfl
@[simp] theorem slice_l {xs : List D} {a b : Option Int} : sliceD (.lst xs) a b = some (.lst (cutD xs a b)) := rfl
@[simp] theorem slice_L {xs : List D} {a b : Option Int} : sliceL (.lst xs) a b = some (.lst (cutD xs a b)) := rfl
theorem add_t {xs ys : List D} (h : xs.length + ys.length ≤ 1000000) : addD (.tup xs) (.tup ys) = some (.tup (xs ++ ys)) := if_pos h
theorem add_l {xs ys : List D} (h : xs.length + ys.length ≤ 1000000) : addD (.lst xs) (.lst ys) = some (.lst (xs ++ ys)) := if_pos h
mutual
/-- data of None, ints, strings -/
def pln : D → Bool
  | .non => true
  | .int _ => true
  | .tup xs => plnL xs
  | .lst xs => plnL xs
  | _ => false
def plnL : List D → Bool
  | [] => true
  | x :: xs => pln x && plnL xs
end
mutual
theorem py_pln : ∀ (d : D), pln d = true → ∃ p, py d = some p ∧ p.canLay0 = true ∧ p.depth = dpD d
  | .non, _ => ⟨_, rfl, rfl, rfl⟩
  | .int i, _ => ⟨_, rfl, rfl, rfl⟩
  | .tup xs, h => by
    obtain ⟨ps, h1, h2, h3⟩ := py_plnL xs h
    exact ⟨.tuple ps, by unfold py; rw [h1], h2, by show PyData.depthAll ps + 1 = _; rw [h3]; rfl⟩
  | .lst xs, h => by
    obtain ⟨ps, h1, h2, h3⟩ := py_plnL xs h
    exact ⟨.list ps, by unfold py; rw [h1], h2, by show PyData.depthAll ps + 1 = _; rw [h3]; rfl⟩
  | .bl _, h => by cases h
  | .str _, h => by cases h
  | .dct _, h => by cases h
  | .jar, h => by cases h
  | .obj _, h => by cases h
  | .ins _ _, h => by cases h
theorem py_plnL : ∀ (ds : List D), plnL ds = true → ∃ ps, pyL ds = some ps ∧ PyData.canLayAll0 ps = true ∧ PyData.depthAll ps = dpL ds
  | [], _ => ⟨[], rfl, rfl, rfl⟩
  | d :: ds, h => by
    unfold plnL at h
    rw [Bool.and_eq_true] at h
    obtain ⟨p, a1, a2, a3⟩ := py_pln d h.1
    obtain ⟨ps, h1, h2, h3⟩ := py_plnL ds h.2
    exact ⟨p :: ps, by unfold pyL; rw [a1, h1], by unfold PyData.canLayAll0; rw [a2, h2]; rfl, by unfold PyData.depthAll dpL; rw [a3, h3]⟩
end
mutual
theorem eqv_pln : ∀ (d e : D) {p q : PyData}, pln d = true → pln e = true → py d = some p → py e = some q → (PyData.eqv p q = true ↔ d = e)
  | .non, .non, p, q, _, _, h1, h2 => by cases h1; cases h2; simp [PyData.eqv]
  | .non, .int _, p, q, _, _, h1, h2 => by cases h1; cases h2; simp [PyData.eqv]
  | .int _, .non, p, q, _, _, h1, h2 => by cases h1; cases h2; simp [PyData.eqv]
  | .int a, .int b, p, q, _, _, h1, h2 => by cases h1; cases h2; simp [PyData.eqv]
  | .non, .tup xs, p, q, _, h, h1, h2 => by obtain ⟨ps, e, _⟩ := py_plnL xs h; cases h1; unfold py at h2; rw [e] at h2; cases h2; simp [PyData.eqv]
  | .non, .lst xs, p, q, _, h, h1, h2 => by obtain ⟨ps, e, _⟩ := py_plnL xs h; cases h1; unfold py at h2; rw [e] at h2; cases h2; simp [PyData.eqv]
  | .int _, .tup xs, p, q, _, h, h1, h2 => by obtain ⟨ps, e, _⟩ := py_plnL xs h; cases h1; unfold py at h2; rw [e] at h2; cases h2; simp [PyData.eqv]
  | .int _, .lst xs, p, q, _, h, h1, h2 => by obtain ⟨ps, e, _⟩ := py_plnL xs h; cases h1; unfold py at h2; rw [e] at h2; cases h2; simp [PyData.eqv]
  | .tup xs, .non, p, q, h, _, h1, h2 => by obtain ⟨ps, e, _⟩ := py_plnL xs h; cases h2; unfold py at h1; rw [e] at h1; cases h1; simp [PyData.eqv]
  | .lst xs, .non, p, q, h, _, h1, h2 => by obtain ⟨ps, e, _⟩ := py_plnL xs h; cases h2; unfold py at h1; rw [e] at h1; cases h1; simp [PyData.eqv]
  | .tup xs, .int _, p, q, h, _, h1, h2 => by obtain ⟨ps, e, _⟩ := py_plnL xs h; cases h2; unfold py at h1; rw [e] at h1; cases h1; simp [PyData.eqv]
  | .lst xs, .int _, p, q, h, _, h1, h2 => by obtain ⟨ps, e, _⟩ := py_plnL xs h; cases h2; unfold py at h1; rw [e] at h1; cases h1; simp [PyData.eqv]
  | .tup xs, .lst ys, p, q, h, g, h1, h2 => by obtain ⟨ps, e, _⟩ := py_plnL xs h; obtain ⟨qs, e', _⟩ := py_plnL ys g; unfold py at h1 h2; rw [e] at h1; rw [e'] at h2; cases h1; cases h2; simp [PyData.eqv]
  | .lst xs, .tup ys, p, q, h, g, h1, h2 => by obtain ⟨ps, e, _⟩ := py_plnL xs h; obtain ⟨qs, e', _⟩ := py_plnL ys g; unfold py at h1 h2; rw [e] at h1; rw [e'] at h2; cases h1; cases h2; simp [PyData.eqv]
  | .tup xs, .tup ys, p, q, h, g, h1, h2 => by
    obtain ⟨ps, e, _⟩ := py_plnL xs h; obtain ⟨qs, e', _⟩ := py_plnL ys g; unfold py at h1 h2; rw [e] at h1; rw [e'] at h2; cases h1; cases h2
    show PyData.eqvAll ps qs = true ↔ _
    rw [eqv_plnL xs ys h g e e']
    exact ⟨fun z => by rw [z], fun z => D.tup.inj z⟩
  | .lst xs, .lst ys, p, q, h, g, h1, h2 => by
    obtain ⟨ps, e, _⟩ := py_plnL xs h; obtain ⟨qs, e', _⟩ := py_plnL ys g; unfold py at h1 h2; rw [e] at h1; rw [e'] at h2; cases h1; cases h2
    show PyData.eqvAll ps qs = true ↔ _
    rw [eqv_plnL xs ys h g e e']
    exact ⟨fun z => by rw [z], fun z => D.lst.inj z⟩
theorem eqv_plnL : ∀ (ds es : List D) {ps qs : List PyData}, plnL ds = true → plnL es = true → pyL ds = some ps → pyL es = some qs → (PyData.eqvAll ps qs = true ↔ ds = es)
  | [], [], ps, qs, _, _, h1, h2 => by cases h1; cases h2; simp [PyData.eqvAll]
  | [], e :: es, ps, qs, _, h, h1, h2 => by
    obtain ⟨qs, e, _⟩ := py_plnL (e :: es) h
    cases h1
    rw [e] at h2; cases h2
    cases qs with
    | nil => unfold pyL at e; split at e <;> cases e
    | cons _ _ => simp [PyData.eqvAll]
  | d :: ds, [], ps, qs, h, _, h1, h2 => by
    obtain ⟨ps, e, _⟩ := py_plnL (d :: ds) h
    cases h2
    rw [e] at h1; cases h1
    cases ps with
    | nil => unfold pyL at e; split at e <;> cases e
    | cons _ _ => simp [PyData.eqvAll]
  | d :: ds, e :: es, ps, qs, h, g, h1, h2 => by
    unfold plnL at h g
    rw [Bool.and_eq_true] at h g
    obtain ⟨p, a1, _⟩ := py_pln d h.1
    obtain ⟨q, b1, _⟩ := py_pln e g.1
    obtain ⟨ps', a2, _⟩ := py_plnL ds h.2
    obtain ⟨qs', b2, _⟩ := py_plnL es g.2
    unfold pyL at h1 h2
    rw [a1, a2] at h1
    rw [b1, b2] at h2
    cases h1; cases h2
    show (PyData.eqv p q && PyData.eqvAll ps' qs') = true ↔ _
    rw [Bool.and_eq_true, eqv_pln d e h.1 g.1 a1 b1, eqv_plnL ds es h.2 g.2 a2 b2]
    exact ⟨fun z => by rw [z.1, z.2], fun z => List.cons.inj z⟩
end
theorem eqP_pln {d e : D} (h1 : pln d = true) (h2 : pln e = true) (d1 : dpD d ≤ 64) (d2 : dpD e ≤ 64) : eqP d e = some (@decide (d = e) (Classical.propDecidable _)) := by
  obtain ⟨p, a1, a2, a3⟩ := py_pln d h1
  obtain ⟨q, b1, b2, b3⟩ := py_pln e h2
  unfold eqP
  rw [a1, b1]
  have s1 : SeqAt.shaped p = true := by unfold SeqAt.shaped; rw [a2, a3]; simpa using d1
  have s2 : SeqAt.shaped q = true := by unfold SeqAt.shaped; rw [b2, b3]; simpa using d2
  simp only [s1, s2, Bool.and_self, if_true]
  congr 1
  rw [Bool.eq_iff_iff, eqv_pln d e h1 h2 a1 b1]
  simp
theorem eqD_t {xs ys : List D} (h1 : plnL xs = true) (h2 : plnL ys = true) (d1 : dpL xs ≤ 63) (d2 : dpL ys ≤ 63) : eqD (.tup xs) (.tup ys) = some (.bl (@decide (xs = ys) (Classical.propDecidable _))) := by
  have h : eqB (.tup xs) (.tup ys) = _ := eqP_pln (d := .tup xs) (e := .tup ys) h1 h2 (by show dpL xs + 1 ≤ 64; omega) (by show dpL ys + 1 ≤ 64; omega)
  unfold eqD; rw [h]
  simp
theorem eqD_l {xs ys : List D} (h1 : plnL xs = true) (h2 : plnL ys = true) (d1 : dpL xs ≤ 63) (d2 : dpL ys ≤ 63) : eqD (.lst xs) (.lst ys) = some (.bl (@decide (xs = ys) (Classical.propDecidable _))) := by
  have h : eqB (.lst xs) (.lst ys) = _ := eqP_pln (d := .lst xs) (e := .lst ys) h1 h2 (by show dpL xs + 1 ≤ 64; omega) (by show dpL ys + 1 ≤ 64; omega)
  unfold eqD; rw [h]
  simp
theorem neD_t {xs ys : List D} (h1 : plnL xs = true) (h2 : plnL ys = true) (d1 : dpL xs ≤ 63) (d2 : dpL ys ≤ 63) : neD (.tup xs) (.tup ys) = some (.bl (!@decide (xs = ys) (Classical.propDecidable _))) := by
  have h : eqB (.tup xs) (.tup ys) = _ := eqP_pln (d := .tup xs) (e := .tup ys) h1 h2 (by show dpL xs + 1 ≤ 64; omega) (by show dpL ys + 1 ≤ 64; omega)
  unfold neD; rw [h]
  simp
theorem neD_l {xs ys : List D} (h1 : plnL xs = true) (h2 : plnL ys = true) (d1 : dpL xs ≤ 63) (d2 : dpL ys ≤ 63) : neD (.lst xs) (.lst ys) = some (.bl (!@decide (xs = ys) (Classical.propDecidable _))) := by
  have h : eqB (.lst xs) (.lst ys) = _ := eqP_pln (d := .lst xs) (e := .lst ys) h1 h2 (by show dpL xs + 1 ≤ 64; omega) (by show dpL ys + 1 ≤ 64; omega)
  unfold neD; rw [h]
  simp
theorem eqD_ni {i : Int} : eqD (.non) (.int i) = some (.bl false) := by unfold eqD; rfl
@[simp] theorem pln_N : ∀ {O : List Nat}, plnL (dN O) = true
  | [] => rfl
  | a :: r => by show (pln (.int a) && plnL (dN r)) = true; rw [pln_N]; rfl
@[simp] theorem pln_I : ∀ {O : List Int}, plnL (dI O) = true
  | [] => rfl
  | a :: r => by show (pln (.int a) && plnL (dI r)) = true; rw [pln_I]; rfl
@[simp] theorem dp_N : ∀ {O : List Nat}, dpL (dN O) = 0
  | [] => rfl
  | a :: r => by show max (dpD (.int a)) (dpL (dN r)) = 0; rw [dp_N]; rfl
@[simp] theorem dp_I : ∀ {O : List Int}, dpL (dI O) = 0
  | [] => rfl
  | a :: r => by show max (dpD (.int a)) (dpL (dI r)) = 0; rw [dp_I]; rfl
theorem dI_inj {A B : List Int} (h : dI A = dI B) : A = B := (List.map_inj_right (f := D.int) (fun x y z => D.int.inj z)).mp h
theorem dN_inj {A B : List Nat} (h : dN A = dN B) : A = B := zN_inj (dI_inj (by rw [← dN_z, ← dN_z]; exact h))
@[simp] theorem dN_iff {A B : List Nat} : dN A = dN B ↔ A = B := ⟨dN_inj, fun h => by rw [h]⟩
@[simp] theorem dI_iff {A B : List Int} : dI A = dI B ↔ A = B := ⟨dI_inj, fun h => by rw [h]⟩
theorem eq_tN {A B : List Nat} : eqD (tN A) (tN B) = some (.bl (decide (A = B))) := by
  rw [eqD_t (by simp) (by simp) (by simp) (by simp)]
  simp
theorem eq_lN {A B : List Nat} : eqD (lN A) (lN B) = some (.bl (decide (A = B))) := by
  rw [eqD_l (by simp) (by simp) (by simp) (by simp)]
  simp
theorem ne_lN {A B : List Nat} : neD (lN A) (lN B) = some (.bl (!decide (A = B))) := by
  rw [neD_l (by simp) (by simp) (by simp) (by simp)]
  simp
theorem ne_tN {A B : List Nat} : neD (tN A) (tN B) = some (.bl (!decide (A = B))) := by
  rw [neD_t (by simp) (by simp) (by simp) (by simp)]
  simp
/-! in -/
theorem any_ints {xs : List Int} {i : Int} : ((xs.map PyData.int).any fun z => PyData.eqv z (.int i)) = decide (i ∈ xs) := by
  rw [Bool.eq_iff_iff]
  simp [PyData.eqv]
theorem inB_t {xs : List Int} {i : Int} : inB (.int i) (tZ xs) = some (decide (i ∈ xs)) := by
  have e : py (.tup (dI xs)) = some (.tuple (xs.map PyData.int)) := by unfold py dI; rw [pyInts]
  have s : SeqAt.shaped (.tuple (xs.map PyData.int)) = true := shaped_ints xs
  show (match py (.int i), py (.tup (dI xs)) with | some p, some (.list ds) => _ | some p, some (.tuple ds) => _ | _, _ => _) = _
  rw [e]
  show (if (SeqAt.shaped (.int i) && SeqAt.shaped (.tuple (xs.map PyData.int))) = true then some ((xs.map PyData.int).any fun z => PyData.eqv z (.int i)) else none) = _
  rw [s, any_ints]
  rfl
theorem inB_l {xs : List Int} {i : Int} : inB (.int i) (lZ xs) = some (decide (i ∈ xs)) := by
  have e : py (.lst (dI xs)) = some (.list (xs.map PyData.int)) := by unfold py dI; rw [pyInts]
  have s : SeqAt.shaped (.list (xs.map PyData.int)) = true := shaped_ints xs
  show (match py (.int i), py (.lst (dI xs)) with | some p, some (.list ds) => _ | some p, some (.tuple ds) => _ | _, _ => _) = _
  rw [e]
  show (if (SeqAt.shaped (.int i) && SeqAt.shaped (.list (xs.map PyData.int))) = true then some ((xs.map PyData.int).any fun z => PyData.eqv z (.int i)) else none) = _
  rw [s, any_ints]
  rfl
theorem mem_z {O : List Nat} {i : Int} : i ∈ zN O ↔ ∃ n ∈ O, i = (n : Nat) := by
  unfold zN; simp only [List.mem_map]
  exact ⟨fun ⟨n, h, e⟩ => ⟨n, h, e.symm⟩, fun ⟨n, h, e⟩ => ⟨n, h, e.symm⟩⟩
theorem mem_zn {O : List Nat} {n : Nat} : ((n : Nat) : Int) ∈ zN O ↔ n ∈ O := by
  rw [mem_z]
  exact ⟨fun ⟨k, h, e⟩ => by have : n = k := by omega
                             rw [this]; exact h, fun h => ⟨n, h, rfl⟩⟩
theorem in_tN {O : List Nat} {n : Nat} : inD (.int (n : Nat)) (tN O) = some (.bl (decide (n ∈ O))) := by
  unfold inD
  show (match inB (.int (n : Nat)) (.tup (dN O)) with | some b => some (D.bl b) | none => none) = _
  rw [dN_z, inB_t]
  simp [mem_zn]
theorem in_lN {O : List Nat} {n : Nat} : inD (.int (n : Nat)) (lN O) = some (.bl (decide (n ∈ O))) := by
  unfold inD
  show (match inB (.int (n : Nat)) (.lst (dN O)) with | some b => some (D.bl b) | none => none) = _
  rw [dN_z, inB_l]
  simp [mem_zn]
theorem nin_tZ {O : List Nat} {i : Int} : ninD (.int i) (tN O) = some (.bl (!decide (i ∈ zN O))) := by
  unfold ninD
  show (match inB (.int i) (.tup (dN O)) with | some b => some (D.bl (!b)) | none => none) = _
  rw [dN_z, inB_t]
theorem nin_lZ {O : List Nat} {i : Int} : ninD (.int i) (lN O) = some (.bl (!decide (i ∈ zN O))) := by
  unfold ninD
  show (match inB (.int i) (.lst (dN O)) with | some b => some (D.bl (!b)) | none => none) = _
  rw [dN_z, inB_l]
/-! sorted -/
theorem sort_l {xs : List Int} : sortD [lZ xs] = some (lZ (isort xs)) := by
  show (match ints? (dI xs) with | some ns => some (D.lst ((isort ns).map D.int)) | none => none) = _
  unfold dI
  rw [ints?_map]
  rfl
theorem sort_t {xs : List Int} : sortD [tZ xs] = some (lZ (isort xs)) := by
  show (match ints? (dI xs) with | some ns => some (D.lst ((isort ns).map D.int)) | none => none) = _
  unfold dI
  rw [ints?_map]
  rfl
/-- sorted, where the answer is known -/
theorem sort_lN {A B : List Nat} (hp : B.Perm A) (hs : B.Pairwise (· ≤ ·)) : sortD [lN A] = some (lN B) := by
  show sortD [.lst (dN A)] = some (.lst (dN B))
  rw [dN_z, sort_l, dN_z, ← isort_unique (ns := zN A) (ns' := zN B) (hp.map _) (by unfold zN; exact List.pairwise_map.mpr (hs.imp fun {a b} h => by omega))]
theorem sort_tN {A B : List Nat} (hp : B.Perm A) (hs : B.Pairwise (· ≤ ·)) : sortD [tN A] = some (lN B) := by
  show sortD [.tup (dN A)] = some (.lst (dN B))
  rw [dN_z, sort_t, dN_z, ← isort_unique (ns := zN A) (ns' := zN B) (hp.map _) (by unfold zN; exact List.pairwise_map.mpr (hs.imp fun {a b} h => by omega))]
/-! repr -/
theorem shw_N : ∀ {O : List Nat}, (∀ x ∈ O, x ≤ 10 ^ 20) → shwL (dN O) = true
  | [], _ => rfl
  | a :: r, h => by
    show (sm (a : Int) && shwL (dN r)) = true
    rw [shw_N fun x hx => h x (List.mem_cons_of_mem _ hx), sm_of (by omega) (by have := h a List.mem_cons_self; omega)]
    rfl
theorem sz_N : ∀ {O : List Nat}, szL (dN O) = 72 * O.length
  | [] => rfl
  | a :: r => by show szD (.int a) + 2 + szL (dN r) = _; rw [sz_N]; simp [szD]; omega
theorem shw_ex {L O : List Nat} (h1 : ∀ x ∈ L, x ≤ 10 ^ 20) (h2 : ∀ x ∈ O, x ≤ 10 ^ 20) : shw (exD L O) = true := by
  show (shwL (dN L) && (shwL (dN O) && true)) = true
  rw [shw_N h1, shw_N h2]; rfl
theorem dp_ex {L O : List Nat} : dpD (exD L O) = 2 := by
  show max (dpL (dN L) + 1) (max (dpL (dN O) + 1) 0) + 1 = 2
  rw [dp_N, dp_N]; rfl
theorem sz_ex {L O : List Nat} : szD (exD L O) = 72 * (L.length + O.length) + 16 := by
  show (szL (dN L) + 4) + 2 + ((szL (dN O) + 4) + 2 + 0) + 4 = _
  rw [sz_N, sz_N]; omega
theorem rep_ex {L O : List Nat} (h1 : ∀ x ∈ L, x ≤ 10 ^ 20) (h2 : ∀ x ∈ O, x ≤ 10 ^ 20) (h3 : L.length ≤ 1000) (h4 : O.length ≤ 1000) : ∃ x, reprB [exD L O] = some (.str x) := by
  obtain ⟨z, e, x, rfl⟩ := reprB_ok (P := fun z => ∃ x, z = .str x) (shw_ex h1 h2) (by rw [dp_ex]; omega) (by rw [sz_ex]; omega) fun x _ => ⟨x, rfl⟩
  exact ⟨x, e⟩
section
variable {L O : List Nat} {j : Nat} {P : D → Nat → Prop} {E : Ex → Nat → Prop}
theorem w_draw {k : Int} (hk : 0 < k) (hs : k ≤ 10 ^ 59) (hn : j < NMAX) (q : ∀ v : Nat, (v : Int) < k → P (.int (v : Nat)) (j + 1)) : WF drawF [.jar, .int k] j P E :=
  ⟨k, rfl, hk, sm_of (by omega) hs, hn, fun v v0 v1 => by
    obtain ⟨i, rfl⟩ := Int.eq_ofNat_of_zero_le v0
    exact q i v1⟩
theorem ne_nil {xs : List Nat} : neD (lN xs) (.lst []) = some (.bl (!decide (xs = []))) := by
  have h1 : eqB (lN xs) (.lst []) = some (decide (xs = [])) := by
    show eqP (.lst (dN xs)) (.lst []) = _
    rw [dN_z]
    unfold eqP
    have e1 : py (.lst (dI (zN xs))) = some (.list ((zN xs).map PyData.int)) := by unfold py dI; rw [pyInts]
    have e2 : py (.lst []) = some (.list []) := rfl
    rw [e1, e2]
    simp only [shaped_ints, show SeqAt.shaped (.list []) = true by decide, Bool.and_self, if_true]
    congr 1
    cases xs with
    | nil => rfl
    | cons x r =>
      show PyData.eqv (.list (((x : Int) :: zN r).map PyData.int)) (.list []) = _
      rw [eqv_cons]; simp
  unfold neD
  rw [h1]
theorem perm_erase {α : Type} : ∀ {xs : List α} {i : Nat} (h : i < xs.length), ([xs[i]] ++ xs.eraseIdx i).Perm xs
  | x :: r, 0, h => List.Perm.refl _
  | x :: r, i + 1, h => by
    have ih := perm_erase (xs := r) (i := i) (by simpa using h)
    have hi : i < r.length := by simpa using h
    show (r[i] :: x :: r.eraseIdx i).Perm (x :: r)
    exact (List.Perm.swap _ _ _).trans (List.Perm.cons _ ih)
end

section
variable {j : Nat} {P : D → Nat → Prop} {E : Ex → Nat → Prop}
/-! ### numbers -/
theorem gt_range {n i : Nat} (h : i < n) : gt (List.range n) i = i := by unfold gt; simp [h]
def chs (t : Nat) : Nat → Nat
  | 0 => 1
  | s + 1 => chs t s * (t - s) / (s + 1)
def fct : Nat → Nat
  | 0 => 1
  | k + 1 => fct k * (k + 1)
theorem chs_le (t : Nat) : ∀ s, chs t s ≤ t ^ s
  | 0 => Nat.le_refl _
  | s + 1 => by
    show chs t s * (t - s) / (s + 1) ≤ t ^ s * t
    exact Nat.le_trans (Nat.div_le_self _ _) (Nat.mul_le_mul (chs_le t s) (Nat.sub_le _ _))
theorem pow_mono {a b n : Nat} (h : a ≤ b) : a ^ n ≤ b ^ n := Nat.pow_le_pow_left h n
/-- bounds that the walks need -/
structure Bn (t s : Nat) : Prop where
  ht : t ≤ 10 ^ 12
  hs : s ≤ 20
  c : ∀ i, i < s → chs t i ≤ 10 ^ 59
theorem chs_step {t i : Nat} (h : chs t i ≤ 10 ^ 59) (ht : t ≤ 10 ^ 12) (hi : i < t + 1) (hs : i ≤ 20) :
    ∃ z, mulD (.int (chs t i : Nat)) (.int ((t : Int) - (i : Nat))) = some z ∧ fdivD z (.int ((i : Nat) + 1)) = some (.int (chs t (i + 1) : Nat)) := by
  have e1 : ((t : Nat) : Int) - (i : Nat) = ((t - i : Nat) : Int) := by omega
  have e2 : ((i : Nat) : Int) + 1 = ((i + 1 : Nat) : Int) := by push_cast; rfl
  rw [e1, e2]
  refine ⟨_, mul_i (sm_of (by omega) (by omega)) (sm_of (by omega) (by omega)), ?_⟩
  rw [div_i (by omega) (sm_of (by omega) (by omega)), ← Int.natCast_mul]
  rfl
theorem w_binomial {t s : Nat} (b : Bn t s) (q : P (.int (if s ≤ t then chs t s else 0 : Nat)) j) : WF F_p_binomial [.int (t : Nat), .int (s : Nat)] j P E := by
  have ht := b.ht
  have hs := b.hs
  refine a_run rfl ?_
  show f_p_binomial [some (.int (t : Nat)), some (.int (s : Nat)), none, none] j _ _
  have hL := LN
  have hM := LM
  simp [f_p_binomial]
  by_cases c : s ≤ t
  · rw [if_pos c] at q
    refine .inr ⟨c, _, mul_i (sm_of (by omega) (by omega)) (sm_of (by decide) (by decide)), ?_⟩
    rw [Int.mul_one]
    simp
    refine ⟨by omega, by omega, ?_⟩
    refine wL_inv (fun k m j' => j' = j ∧ k ≤ s ∧ ∃ x, Is m [some (.int (t : Nat)), some (.int (s : Nat)), some (.int (chs t k : Nat)), x]) ⟨rfl, Nat.zero_le _, none, rfl⟩ ?_ ?_
    · rintro k d m j' hd ⟨rfl, hk, x, rfl⟩
      obtain ⟨hlt, rfl⟩ := dN_at (O := List.range s) (by rw [← rng_N]; exact hd)
      rw [List.length_range] at hlt
      rw [gt_range hlt]
      obtain ⟨z, e1, e2⟩ := chs_step (b.c k hlt) ht (by omega) (by omega)
      refine ⟨_, rfl, ?_⟩
      simp [e1, e2]
      exact ⟨by omega, _, rfl⟩
    · rintro m j' ⟨rfl, hk, x, rfl⟩
      rw [rng_N, dN_len, List.length_range]
      simp
      exact q
  · rw [if_neg c] at q
    refine .inl ⟨by omega, _, mul_i (sm_of (by omega) (by omega)) (sm_of (by decide) (by decide)), ?_⟩
    rw [Int.mul_zero]
    simp
    refine ⟨by omega, ?_⟩
    refine wL_inv (fun k m j' => j' = j ∧ ∃ x, Is m [some (.int (t : Nat)), some (.int (s : Nat)), some (.int 0), x]) ⟨rfl, none, rfl⟩ ?_ ?_
    · rintro k d m j' hd ⟨rfl, x, rfl⟩
      simp [rngD] at hd
    · rintro m j' ⟨rfl, x, rfl⟩
      simp
      exact q
theorem w_choose {t s : Nat} (b : Bn t s) (q : P (.int (if s ≤ t then chs t s else 0 : Nat)) j) : WF F_choose [.int (t : Nat), .int (s : Nat)] j P E := by
  have ht := b.ht
  have hs := b.hs
  refine a_run rfl ?_
  show f_choose [some (.int (t : Nat)), some (.int (s : Nat)), none, none] j _ _
  have hL := LN
  have hM := LM
  simp [f_choose]
  by_cases c : s ≤ t
  · rw [if_pos c] at q
    refine .inl ⟨c, by omega, by omega, ?_⟩
    refine wL_inv (fun k m j' => j' = j ∧ k ≤ s ∧ ∃ x, Is m [some (.int (t : Nat)), some (.int (s : Nat)), some (.int (chs t k : Nat)), x]) ⟨rfl, Nat.zero_le _, none, rfl⟩ ?_ ?_
    · rintro k d m j' hd ⟨rfl, hk, x, rfl⟩
      obtain ⟨hlt, rfl⟩ := dN_at (O := List.range s) (by rw [← rng_N]; exact hd)
      rw [List.length_range] at hlt
      rw [gt_range hlt]
      obtain ⟨z, e1, e2⟩ := chs_step (b.c k hlt) ht (by omega) (by omega)
      refine ⟨_, rfl, ?_⟩
      simp [e1, e2]
      exact ⟨by omega, _, rfl⟩
    · rintro m j' ⟨rfl, hk, x, rfl⟩
      rw [rng_N, dN_len, List.length_range]
      simp
      exact q
  · rw [if_neg c] at q
    exact .inr ⟨by omega, q⟩
theorem w_factorial {k : Nat} (hk : k ≤ 8) (q : P (.int (fct k : Nat)) j) : WF F_p_factorial [.int (k : Nat)] j P E := by
  refine a_run rfl ?_
  show f_p_factorial [some (.int (k : Nat)), none, none] j _ _
  have hL := LN
  have hM := LM
  have fb : ∀ i, i < 9 → fct i ≤ 10 ^ 9 := by decide
  simp [f_p_factorial]
  refine ⟨by omega, by omega, ?_⟩
  refine wL_inv (fun i m j' => j' = j ∧ i ≤ k ∧ ∃ x, Is m [some (.int (k : Nat)), some (.int (fct i : Nat)), x]) ⟨rfl, Nat.zero_le _, none, rfl⟩ ?_ ?_
  · rintro i d m j' hd ⟨rfl, hi, x, rfl⟩
    obtain ⟨hlt, rfl⟩ := dN_at (O := List.range k) (by rw [← rng_N]; exact hd)
    rw [List.length_range] at hlt
    rw [gt_range hlt]
    have f1 := fb i (by omega)
    have e2 : ((i : Nat) : Int) + 1 = ((i + 1 : Nat) : Int) := by push_cast; rfl
    have em : mulD (.int (fct i : Nat)) (.int ((i : Nat) + 1)) = some (.int (fct (i + 1) : Nat)) := by
      rw [e2, mul_i (sm_of (by omega) (by omega)) (sm_of (by omega) (by omega)), ← Int.natCast_mul]; rfl
    refine ⟨_, rfl, ?_⟩
    simp [em]
    exact ⟨by omega, _, rfl⟩
  · rintro m j' ⟨rfl, hi, x, rfl⟩
    rw [rng_N, dN_len, List.length_range]
    simp
    exact q
end
section
variable {j : Nat} {P : D → Nat → Prop} {E : Ex → Nat → Prop}
/-! ### orders -/
def oD (b : Nat) (st : Bool) : D := .ins 0 [("blocks", tN (List.range b)), ("standard", .bl st)]
def bin (t s : Nat) : Nat := if s ≤ t then chs t s else 0
def sgn : Nat → Int
  | 0 => 1
  | k + 1 => -(sgn k)
def wsum (b : Nat) : Nat → Int
  | 0 => 0
  | k + 1 => wsum b k + sgn k * (bin (b - 1) k : Nat) * (fct (b - k) : Nat)
def wys (b : Nat) (st : Bool) : Int := wsum b (if st then b else 1)
theorem sgn_b : ∀ k, sgn k = 1 ∨ sgn k = -1
  | 0 => .inl rfl
  | k + 1 => by
    show -(sgn k) = 1 ∨ -(sgn k) = -1
    rcases sgn_b k with h | h <;> rw [h] <;> decide
theorem w_mkO {b : Nat} {st : Bool} {P : D → Prop} {E : Ex → Prop} (hb : b ≤ 8) (q : P (oD b st)) : WM 0 F_Orders___init__ [.int (b : Nat), .bl st] P E := by
  intro a
  refine a_run rfl ?_
  show f_Orders___init__ [some (.obj a), some (.int (b : Nat)), some (.bl st)] _ _ _
  have hL := LN
  have hM := LM
  simp [f_Orders___init__, Ob.put, putFld]
  refine ⟨by omega, by omega, by rw [rngD_length]; omega, ?_⟩
  rw [rng_N]
  exact q
theorem in_tZ {O : List Nat} {i : Int} : inD (.int i) (tN O) = some (.bl (decide (i ∈ zN O))) := by
  unfold inD
  show (match inB (.int i) (.tup (dN O)) with | some b => some (D.bl b) | none => none) = _
  rw [dN_z, inB_t]
theorem o_st {b : Nat} {st : Bool} {j : Nat} {P : D → Nat → Prop} (h : P (.bl st) j) : atP 0 "standard" (oD b st) P j := ⟨_, _, rfl, rfl, h⟩
theorem o_bl {b : Nat} {st : Bool} {j : Nat} {P : D → Nat → Prop} (h : P (tN (List.range b)) j) : atP 0 "blocks" (oD b st) P j := ⟨_, _, rfl, rfl, h⟩
theorem a_astar {fa : Ev Nat} {fr : Av Nat} {m : Sd} {P : List D → Nat → Prop} {E : XP Nat} : aStar fa fr m j P E = fa m j (fun x j1 => ∃ xs, seqT x = some xs ∧ fr m j1 (fun ys j2 => P (xs ++ ys) j2) E) E := rfl
theorem w_ways {b : Nat} {st : Bool} (h1 : 1 ≤ b) (hb : b ≤ 8) (q : P (.int (wys b st)) j) : WF F_Orders_ways [oD b st, tN (List.range b), .int (-2)] j P E := by
  refine a_run rfl ?_
  show f_Orders_ways [some (oD b st), some (tN (List.range b)), some (.int (-2)), none, none, none, none, none] j _ _
  have hL := LN
  have hM := LM
  simp only [f_Orders_ways]
  have za : D.int (-2) :: dN (List.range b) = (((-2 : Int) :: zN (List.range b)).map D.int) := by unfold zN dN; simp
  have zl : ∀ b, b < 9 → 1 ≤ b → ((((-2 : Int) :: zN (List.range b))).filter fun z => decide (z + 1 ∈ zN (List.range b))).length = b - 1 := by decide
  simp [a_astar, seqT]
  refine ⟨by omega, ?_⟩
  rw [za]
  refine wC_filter (L := (-2 : Int) :: zN (List.range b)) (c := D.int) (fun z => decide (z + 1 ∈ zN (List.range b))) D.int (fun z hz => ⟨_, rfl, ?_, fun _ => ?_⟩) ?_
  · simp [in_tZ]
  · simp
  have zl := zl b (by omega) h1
  generalize (((-2 : Int) :: zN (List.range b)).filter fun z => decide (z + 1 ∈ zN (List.range b))) = pr at *
  simp
  have bw : ∀ b, b < 9 → ∀ k, k < 9 → bin (b - 1) k ≤ 10 ^ 6 := by decide
  have bf : ∀ k, k < 9 → fct k ≤ 10 ^ 9 := by decide
  have bB : Bn (b - 1) (b - 1) := ⟨by omega, by omega, fun i hi => Nat.le_trans (chs_le _ _) (Nat.le_trans (Nat.pow_le_pow_left (show b - 1 ≤ 7 by omega) i) (Nat.le_trans (Nat.pow_le_pow_right (by omega) (show i ≤ 7 by omega)) (by decide)))⟩
  obtain ⟨n, e1, hn⟩ : ∃ n : Nat, (∃ z, intB [.bl st] = some z ∧ ∃ z1, mulD z (.int (pr.length : Nat)) = some z1 ∧ addD z1 (.int 1) = some (.int (n : Nat))) ∧ n = if st then b else 1 := by
    rw [zl]
    cases st with
    | true => exact ⟨b, ⟨.int 1, rfl, _, mul_i (by decide) (sm_of (by omega) (by omega)), by rw [add_i, Int.one_mul]; congr 2; omega⟩, rfl⟩
    | false => exact ⟨1, ⟨.int 0, rfl, _, mul_i (by decide) (sm_of (by omega) (by omega)), by rw [add_i, Int.zero_mul]; rfl⟩, rfl⟩
  obtain ⟨z, a1, z1, a2, a3⟩ := e1
  have nb : n ≤ b := by rw [hn]; split <;> omega
  refine ⟨by omega, o_st ⟨z, a1, z1, a2, _, a3, (n : Nat), rfl, by omega, by omega, ?_⟩⟩
  rw [Int.toNat_natCast]
  refine wL_inv (fun k m j' => j' = j ∧ k ≤ n ∧ ∃ x, Is m [some (oD b st), some (tN (List.range b)), some (.int (-2)), some (.lst (pr.map D.int)), some (.int (wsum b k)), some (.int (sgn k)), x, none]) ⟨rfl, Nat.zero_le _, none, rfl⟩ ?_ ?_
  · rintro k d m j' hd ⟨rfl, hk, x, rfl⟩
    obtain ⟨hlt, rfl⟩ := dN_at (O := List.range n) (by rw [← rng_N]; exact hd)
    rw [List.length_range] at hlt
    rw [gt_range hlt]
    refine ⟨_, rfl, ?_⟩
    simp [zl]
    refine w_binomial (t := b - 1) (s := k) ⟨bB.ht, by omega, fun i hi => bB.c i (by omega)⟩ ?_
    have b1 := bw b (by omega) k (by omega)
    have b2 := bf (b - k) (by omega)
    have eb : (if k ≤ b - 1 then chs (b - 1) k else 0) = bin (b - 1) k := rfl
    have es : ((b : Nat) : Int) - (k : Nat) = ((b - k : Nat) : Int) := by omega
    rw [eb]
    refine ⟨_, mul_i (by rcases sgn_b k with h | h <;> rw [h] <;> decide) (sm_of (by omega) (by omega)), _, rfl, ?_⟩
    simp
    rw [es]
    refine w_factorial (by omega) ?_
    refine ⟨_, mul_i ?_ (sm_of (by omega) (by omega)), ?_⟩
    · rcases sgn_b k with h | h <;> rw [h] <;> exact sm_of (by omega) (by omega)
    · simp
      exact ⟨by omega, _, rfl⟩
  · rintro m j' ⟨rfl, hk, x, rfl⟩
    rw [rng_N, dN_len, List.length_range]
    simp
    unfold wys at q
    rw [hn]
    exact q
end
section
variable {j : Nat} {P : D → Nat → Prop} {E : Ex → Nat → Prop}
theorem w_count_o {b : Nat} {st : Bool} (h1 : 1 ≤ b) (hb : b ≤ 8) (q : P (.int (wys b st)) j) : WF F_Orders_count [oD b st] j P E := by
  refine a_run rfl ?_
  show f_Orders_count [some (oD b st)] j _ _
  have hq : noP 0 "ways" (oD b st) := ⟨_, rfl, rfl⟩
  simp [f_Orders_count, hq]
  exact o_bl (w_ways h1 hb q)
/-- how many exchanges -/
def cex (n b : Nat) (st : Bool) : Int := (bin (n - 1) (b - 1) : Nat) * wys b st
/-- the number of lengths stays small -/
theorem bin_sm {n b : Nat} (h : Bn (n - 1) (b - 1)) (hs : 1 ≤ b) (hk : b ≤ 6 ∨ n ≤ 20) (hb : b ≤ 8) : sm ((bin (n - 1) (b - 1) : Nat) : Int) = true := by
  have ht := h.ht
  have hn20 : n ≤ 20 → n - 1 ≤ 19 := fun h => by omega
  generalize n - 1 = t at *
  have main : bin t (b - 1) < 10 ^ 60 := by
    unfold bin
    split
    · rcases hk with hk | hk
      · by_cases c : b - 1 = 0
        · rw [c]; show (1 : Nat) < 10 ^ 60; decide
        · obtain ⟨s, es⟩ : ∃ s, b - 1 = s + 1 := ⟨b - 2, by omega⟩
          rw [es]
          show chs t s * (t - s) / (s + 1) < 10 ^ 60
          have c1 : chs t s ≤ (10 ^ 12) ^ s := Nat.le_trans (chs_le t s) (Nat.pow_le_pow_left ht s)
          by_cases s0 : s = 0
          · subst s0
            show 1 * (t - 0) / 1 < 10 ^ 60
            omega
          · have c2 : (10 ^ 12) ^ s ≤ (10 ^ 12) ^ 4 := Nat.pow_le_pow_right (by decide) (by omega)
            have c3 : chs t s * (t - s) ≤ (10 ^ 12) ^ 4 * 10 ^ 12 := Nat.mul_le_mul (Nat.le_trans c1 c2) (by omega)
            have c4 : chs t s * (t - s) / (s + 1) ≤ chs t s * (t - s) / 2 := Nat.div_le_div_left (by omega) (by decide)
            omega
      · have c1 : chs t (b - 1) ≤ 19 ^ (b - 1) := Nat.le_trans (chs_le t _) (Nat.pow_le_pow_left (hn20 hk) _)
        have c2 : 19 ^ (b - 1) ≤ 19 ^ 7 := Nat.pow_le_pow_right (by decide) (by omega)
        have c3 : (19 : Nat) ^ 7 < 10 ^ 60 := by decide
        omega
    · decide
  exact sm_iff.mpr ⟨by omega, by omega⟩
theorem w_cex {n b : Nat} {st : Bool} (hn : 1 ≤ n) (h : Bn (n - 1) (b - 1)) (h1 : 1 ≤ b) (hb : b ≤ 8) (hk : b ≤ 6 ∨ n ≤ 20) (q : P (.int (cex n b st)) j) : WF F_p_count_exchanges [.int (n : Nat), .int (b : Nat), .bl st] j P E := by
  refine a_run rfl ?_
  show f_p_count_exchanges [some (.int (n : Nat)), some (.int (b : Nat)), some (.bl st)] j _ _
  have e1 : ((n : Nat) : Int) - 1 = ((n - 1 : Nat) : Int) := by omega
  have e2 : ((b : Nat) : Int) - 1 = ((b - 1 : Nat) : Int) := by omega
  have wsm : ∀ b, b < 9 → ∀ st : Bool, -(10 ^ 9) ≤ wys b st ∧ wys b st ≤ 10 ^ 9 := by decide
  have hw := wsm b (by omega) st
  simp [f_p_count_exchanges]
  rw [e1, e2]
  refine w_binomial h ?_
  rw [show (if b - 1 ≤ n - 1 then chs (n - 1) (b - 1) else 0) = bin (n - 1) (b - 1) from rfl]
  simp
  refine w_mkO hb ?_
  have hq : noP 0 "count" (oD b st) := ⟨_, rfl, rfl⟩
  refine ⟨hq, ?_⟩
  refine w_count_o h1 hb ?_
  exact ⟨_, mul_i (bin_sm h h1 hk hb) (sm_of (by omega) (by omega)), q⟩
end
section
variable {j : Nat} {P : D → Nat → Prop} {E : Ex → Nat → Prop}
/-! ### the law's own counts -/
def oc (only : Bool) : Nat → Nat
  | 0 => 1
  | 1 => 1
  | k + 2 => if only then (k + 1) * oc only (k + 1) + k * oc only k else (k + 2) * oc only (k + 1)
theorem w_lcount {n b : Nat} {st : Bool} (hn : 1 ≤ n) (h : Bn (n - 1) (b - 1)) (h1 : 1 ≤ b) (hb : b ≤ 6) (q : P (.int (cex n b st)) j) : WF F_count [.int (n : Nat), .int (b : Nat), .bl st] j P E := by
  refine a_run rfl ?_
  show f_count [some (.int (n : Nat)), some (.int (b : Nat)), some (.bl st), none, none] j _ _
  have hL := LN
  have hM := LM
  have e1 : ((n : Nat) : Int) - 1 = ((n - 1 : Nat) : Int) := by omega
  have e2 : ((b : Nat) : Int) - 1 = ((b - 1 : Nat) : Int) := by omega
  have ob : ∀ st : Bool, ∀ k, k < 8 → oc st k ≤ 10 ^ 9 := by decide
  have oe : ∀ st : Bool, ∀ b, b < 7 → 1 ≤ b → ((oc st b : Nat) : Int) = wys b st := by decide
  simp [f_count]
  refine ⟨by omega, by omega, by omega, by omega, by omega, ?_⟩
  have eT : (((b : Nat) : Int) + 1 - 2).toNat = b - 1 := by omega
  rw [eT]
  have two : ∀ k, (List.range (k + 2)).map (oc st) = (List.range k).map (oc st) ++ [oc st k, oc st (k + 1)] := fun k => by
    rw [List.range_succ, List.range_succ, List.map_append, List.map_append, List.append_assoc]; rfl
  have i1 : ∀ k, k < 6 → idxD (lN ((List.range (k + 2)).map (oc st))) (.int (-1)) = some (.int (oc st (k + 1) : Nat)) := fun k hk => by
    have : k = 0 ∨ k = 1 ∨ k = 2 ∨ k = 3 ∨ k = 4 ∨ k = 5 := by omega
    rcases this with rfl | rfl | rfl | rfl | rfl | rfl <;> rfl
  have i2 : ∀ k, k < 6 → idxD (lN ((List.range (k + 2)).map (oc st))) (.int (-2)) = some (.int (oc st k : Nat)) := fun k hk => by
    have : k = 0 ∨ k = 1 ∨ k = 2 ∨ k = 3 ∨ k = 4 ∨ k = 5 := by omega
    rcases this with rfl | rfl | rfl | rfl | rfl | rfl <;> rfl
  refine wL_inv (fun k m j' => j' = j ∧ k ≤ b - 1 ∧ ∃ x, Is m [some (.int (n : Nat)), some (.int (b : Nat)), some (.bl st), some (lN ((List.range (k + 2)).map (oc st))), x]) ⟨rfl, Nat.zero_le _, none, rfl⟩ ?_ ?_
  · rintro k d m j' hd ⟨rfl, hk, x, rfl⟩
    have hlt : k < b - 1 := by have := (List.getElem?_eq_some_iff.mp hd).1; rw [rngD_length] at this; exact this
    rw [rngD_get hlt] at hd
    cases hd
    have b1 := ob st (k + 1) (by omega)
    have b0 := ob st k (by omega)
    have c1 : ((2 : Int) + (k : Nat)) - 1 = ((k + 1 : Nat) : Int) := by omega
    have c2 : ((2 : Int) + (k : Nat)) - 2 = ((k : Nat) : Int) := by omega
    have c0 : ((2 : Int) + (k : Nat)) = ((k + 2 : Nat) : Int) := by omega
    have s0 : ∀ i : Nat, i ≤ 10 ^ 9 → sm ((i : Nat) : Int) = true := fun i hi => sm_of (by omega) (by omega)
    refine ⟨_, rfl, ?_⟩
    obtain ⟨z, hz, ez⟩ : ∃ z, intB [.bl st] = some z ∧ ∀ a c : D, idxD (.lst [a, c]) z = some (if st then c else a) := by
      cases st with
      | true => exact ⟨.int 1, rfl, fun a c => rfl⟩
      | false => exact ⟨.int 0, rfl, fun a c => rfl⟩
    have en : (if st = true then D.int (((k + 1 : Nat) : Int) * (oc st (k + 1) : Nat) + ((k : Nat) : Int) * (oc st k : Nat)) else D.int (((k + 2 : Nat) : Int) * (oc st (k + 1) : Nat))) = D.int (oc st (k + 2) : Nat) := by
      cases st with
      | true => show D.int _ = D.int (((k + 1) * oc true (k + 1) + k * oc true k : Nat) : Int); push_cast; rfl
      | false => show D.int _ = D.int (((k + 2) * oc false (k + 1) : Nat) : Int); push_cast; rfl
    simp [i1 k (by omega), i2 k (by omega)]
    rw [c1, c2, c0]
    refine ⟨_, mul_i (s0 _ (by omega)) (s0 _ b1), _, mul_i (s0 _ (by omega)) (s0 _ b1), _, mul_i (s0 _ (by omega)) (s0 _ b0), _, rfl, by omega, z, hz, _, ez _ _, by omega, by omega, ?_⟩
    rw [en]
    have e3 : dN ((List.range (k + 2)).map (oc st)) ++ [D.int (oc st (k + 2) : Nat)] = dN ((List.range (k + 1 + 2)).map (oc st)) := by
      rw [show k + 1 + 2 = (k + 2) + 1 by omega, List.range_succ (n := k + 2), List.map_append, dN_snoc]; rfl
    rw [e3]
    exact ⟨_, rfl⟩
  · rintro m j' ⟨rfl, hk, x, rfl⟩
    rw [rngD_length]
    have ix : idxD (lN ((List.range (b - 1 + 2)).map (oc st))) (.int (b : Nat)) = some (.int (oc st b : Nat)) := by
      rw [ix_l (by simp; omega), gt_eq (by simp; omega)]
      simp
    simp
    rw [e1, e2]
    refine w_choose h ?_
    rw [show (if b - 1 ≤ n - 1 then chs (n - 1) (b - 1) else 0) = bin (n - 1) (b - 1) from rfl]
    refine ⟨_, rfl, _, rfl, _, ix, _, mul_i (bin_sm h h1 (.inl hb) (by omega)) (sm_of (by omega) (by have := ob st b (by omega); omega)), ?_⟩
    rw [oe st b (by omega) h1]
    exact q
end
section
variable {j : Nat} {P : D → Nat → Prop} {E : Ex → Nat → Prop}
/-! ### all of them -/
def ors (b : Nat) : Nat → List (List Nat)
  | 0 => [[]]
  | t + 1 => (ors b t).flatMap fun r => ((List.range b).filter fun x => decide (x ∉ r)).map fun x => r ++ [x]
theorem ors_len {b : Nat} : ∀ t, ∀ r ∈ ors b t, r.length = t
  | 0, r, h => by simp [ors] at h; rw [h]; rfl
  | t + 1, r, h => by
    obtain ⟨s, hs, h⟩ := List.mem_flatMap.mp h
    obtain ⟨x, _, rfl⟩ := List.mem_map.mp h
    rw [List.length_append, ors_len t s hs]; rfl
theorem ors_many : ∀ b, b < 7 → ∀ t, t < 7 → (ors b t).length ≤ 720 := by decide +kernel
theorem fm_take {α β : Type} {xs : List α} {g : α → List β} {k : Nat} {x : α} (h : xs[k]? = some x) : (xs.take (k + 1)).flatMap g = (xs.take k).flatMap g ++ g x := by
  obtain ⟨h1, h2⟩ := List.getElem?_eq_some_iff.mp h
  rw [List.take_succ_eq_append_getElem h1, h2, List.flatMap_append]
  simp
theorem fm_le {α β : Type} {xs : List α} {g : α → List β} (k : Nat) : ((xs.take k).flatMap g).length ≤ (xs.flatMap g).length := by
  conv => rhs; rw [← List.take_append_drop k xs, List.flatMap_append, List.length_append]
  omega
def orx (b : Nat) (r : List Nat) : List (List Nat) := ((List.range b).filter fun x => decide (x ∉ r)).map fun x => r ++ [x]
theorem w_orders {b : Nat} (hb : b ≤ 6) (q : P (.lst ((ors b b).map tN)) j) : WF F_orders [.int (b : Nat)] j P E := by
  refine a_run rfl ?_
  show f_orders [some (.int (b : Nat)), none, none, none, none, none] j _ _
  have hL := LN
  have hM := LM
  simp [f_orders]
  refine ⟨by omega, by omega, by omega, ?_⟩
  refine wL_inv (fun t m j' => j' = j ∧ t ≤ b ∧ ∃ x y z u, Is m [some (.int (b : Nat)), some (.lst ((ors b t).map tN)), x, y, z, u]) ⟨rfl, Nat.zero_le _, none, none, none, none, rfl⟩ ?_ ?_
  · rintro t d m j' hd ⟨rfl, ht, x, y, z, u, rfl⟩
    obtain ⟨hlt, rfl⟩ := dN_at (O := List.range b) (by rw [← rng_N]; exact hd)
    rw [List.length_range] at hlt
    rw [gt_range hlt]
    have om := ors_many b (by omega) t (by omega)
    have om1 := ors_many b (by omega) (t + 1) (by omega)
    have orl := ors_len (b := b) t
    refine ⟨_, rfl, ?_⟩
    simp
    have e1 : ors b (t + 1) = (ors b t).flatMap (orx b) := rfl
    rw [e1] at om1 ⊢
    generalize ors b t = xs at *
    refine wL_inv (fun k m j2 => j2 = j' ∧ ∃ z u, Is m [some (.int (b : Nat)), none, some (.int (t : Nat)), some (.lst (((xs.take k).flatMap (orx b)).map tN)), z, u]) ⟨rfl, _, _, rfl⟩ ?_ ?_
    · rintro k d m j2 hd ⟨rfl, z, u, rfl⟩
      rw [List.getElem?_map] at hd
      obtain ⟨r, hr, rfl⟩ := Option.map_eq_some_iff.mp hd
      have rl := orl r (List.mem_of_getElem? hr)
      refine ⟨_, rfl, ?_⟩
      simp
      refine ⟨by omega, by omega, by rw [rngD_length]; omega, ?_⟩
      refine wC_rngF (fun x => decide (x ∉ r)) (fun x => tN (r ++ [x])) (fun i hi => ⟨_, rfl, ?_, fun _ => ?_⟩) ?_
      · simp [nin_tZ, mem_zn]
      · simp [LN]
        rw [add_t (by simp; omega)]
        show some (D.tup (dN r ++ dN [i])) = _
        rw [dN_app]
      · have e2 := fm_take (g := orx b) hr
        have e3 := fm_le (xs := xs) (g := orx b) (k + 1)
        rw [e2, List.length_append] at e3
        have e4 : (orx b r).map tN = ((List.range b).filter fun x => decide (x ∉ r)).map fun x => tN (r ++ [x]) := by unfold orx; rw [List.map_map]; rfl
        rw [← e4]
        rw [e2, List.map_append]
        exact ⟨_, rfl, by simp only [List.length_map]; omega, rfl, _, _, rfl⟩
    · rintro m j2 ⟨rfl, z, u, rfl⟩
      rw [List.length_map, List.take_length]
      simp
      exact ⟨by omega, _, _, _, _, rfl⟩
  · rintro m j' ⟨rfl, ht, x, y, z, u, rfl⟩
    rw [rng_N, dN_len, List.length_range]
    simp
    exact q
end
section
variable {j : Nat} {P : D → Nat → Prop} {E : Ex → Nat → Prop}
def szs : Nat → Nat → List (List Nat)
  | 0, _ => []
  | 1, n => [[n]]
  | b + 2, n => (List.range (n - (b + 1))).flatMap fun i => (szs (b + 1) (n - (1 + i))).map fun r => (1 + i) :: r
theorem szs_len : ∀ b n, 1 ≤ b → ∀ r ∈ szs b n, r.length = b
  | 0, _, h, _, _ => by omega
  | 1, n, _, r, h => by simp [szs] at h; rw [h]; rfl
  | b + 2, n, _, r, h => by
    obtain ⟨i, _, h⟩ := List.mem_flatMap.mp h
    obtain ⟨s, hs, rfl⟩ := List.mem_map.mp h
    rw [List.length_cons, szs_len (b + 1) _ (by omega) s hs]
theorem szs_many : ∀ b, b < 7 → ∀ n, n < 7 → (szs b n).length ≤ 100 := by decide
theorem w_sizes_f : ∀ (m b n : Nat), 1 ≤ b → b ≤ m → b ≤ n → n ≤ 6 → ∀ {j : Nat} {P : D → Nat → Prop} {E : Ex → Nat → Prop}, P (.lst ((szs b n).map tN)) j → WF (recF 5 2 f_sizes m) [.int (n : Nat), .int (b : Nat)] j P E
  | 0, b, n, h1, h2, _, _, _, _, _, _ => by omega
  | m + 1, b, n, h1, h2, h3, h4, j, P, E, q => by
    refine a_run (s := f_sizes (recF 5 2 f_sizes m)) (k := 5) (n := 2) rfl ?_
    show f_sizes _ [some (.int (n : Nat)), some (.int (b : Nat)), none, none, none] j _ _
    have hL := LN
    have hM := LM
    have mo : MoF (recF 5 2 f_sizes m) := mo_rec (fun _ _ => inferInstance) m
    simp [f_sizes]
    by_cases c : b = 1
    · subst c
      exact .inr ⟨rfl, by omega, q⟩
    · obtain ⟨b, rfl⟩ : ∃ b', b = b' + 2 := ⟨b - 2, by omega⟩
      refine .inl ⟨by omega, by omega, by omega, by omega, by omega, ?_⟩
      have eT : (((n : Nat) : Int) - ((b + 2 : Nat) : Int) + 2).toNat - 1 = n - (b + 1) := by omega
      rw [eT]
      have gm := szs_many (b + 2) (by omega) n (by omega)
      have eg : szs (b + 2) n = (List.range (n - (b + 1))).flatMap fun i => (szs (b + 1) (n - (1 + i))).map fun r => (1 + i) :: r := rfl
      rw [eg] at gm q
      obtain ⟨rs, hrs⟩ : ∃ rs, rs = List.range (n - (b + 1)) := ⟨_, rfl⟩
      have rl : rs.length = n - (b + 1) := by rw [hrs]; simp
      rw [← hrs] at gm q
      generalize hg : (fun i => (szs (b + 1) (n - (1 + i))).map fun r => (1 + i) :: r) = g at gm q
      refine wL_inv (fun k m' j2 => j2 = j ∧ ∃ x y, Is m' [some (.int (n : Nat)), some (.int ((b + 2 : Nat) : Int)), some (.lst (((rs.take k).flatMap g).map tN)), x, y]) ⟨rfl, none, none, rfl⟩ ?_ ?_
      · rintro k d m' j2 hd ⟨rfl, x, y, rfl⟩
        have hk : k < n - (b + 1) := by have := (List.getElem?_eq_some_iff.mp hd).1; rw [rngD_length] at this; exact this
        rw [rngD_get hk] at hd
        cases hd
        have e1 : ((n : Nat) : Int) - (1 + (k : Nat)) = ((n - (1 + k) : Nat) : Int) := by omega
        have e2 : ((b + 2 : Nat) : Int) - 1 = ((b + 1 : Nat) : Int) := by omega
        have hr : rs[k]? = some k := by rw [hrs]; simp [hk]
        have f2 := fm_take (g := g) hr
        have f3 := fm_le (xs := rs) (g := g) (k + 1)
        rw [f2, List.length_append] at f3
        have gk : g k = (szs (b + 1) (n - (1 + k))).map fun r => (1 + k) :: r := by rw [← hg]
        have sl := szs_len (b + 1) (n - (1 + k)) (by omega)
        refine ⟨_, rfl, ?_⟩
        simp
        have e2' : ((b : Nat) : Int) + 2 - 1 = ((b + 1 : Nat) : Int) := by omega
        rw [e1]
        first | rw [e2'] | rw [e2]
        refine w_sizes_f m (b + 1) (n - (1 + k)) (by omega) (by omega) (by omega) (by omega) ?_
        refine ⟨_, rfl, by rw [List.length_map]; have := szs_many (b + 1) (by omega) (n - (1 + k)) (by omega); omega, ?_⟩
        refine wC_map (L := szs (b + 1) (n - (1 + k))) (c := tN) (fun r => tN ((1 + k) :: r)) (fun r hr => ⟨_, rfl, ?_⟩) ?_
        · have rl2 := sl r hr
          simp [LN]
          rw [add_t (by simp; omega)]
          rfl
        · have e4 : (g k).map tN = (szs (b + 1) (n - (1 + k))).map fun r => tN ((1 + k) :: r) := by rw [gk, List.map_map]; rfl
          rw [← e4]
          rw [f2, List.map_append]
          exact ⟨_, rfl, by simp only [List.length_map]; omega, rfl, _, _, rfl⟩
      · rintro m' j2 ⟨rfl, x, y, rfl⟩
        have et : rs.take (n - (b + 1)) = rs := List.take_of_length_le (by omega)
        rw [rngD_length, et]
        simp
        exact q
end
section
variable {j : Nat} {P : D → Nat → Prop} {E : Ex → Nat → Prop}
def isStd (r : List Nat) : Bool := decide (((List.range (r.length - 1)).filter fun i => decide (gt r (i + 1) = gt r i + 1)) = [])
theorem w_is_std {r : List Nat} (hr : r.length ≤ 6) (q : P (.bl (isStd r)) j) : WF F_is_standard [tN r] j P E := by
  refine a_run rfl ?_
  show f_is_standard [some (tN r), none] j _ _
  have hL := LN
  have hM := LM
  simp [f_is_standard]
  refine ⟨by omega, by omega, by omega, by omega, by rw [rngD_length]; omega, ?_⟩
  have e1 : ((r.length : Nat) : Int).toNat - 1 = r.length - 1 := by omega
  try rw [e1]
  refine wC_filter (L := List.range (r.length - 1)) (c := fun i => D.int (1 + (i : Nat))) (fun i => decide (gt r (i + 1) = gt r i + 1)) (fun i => D.int (1 + (i : Nat))) (fun i hi => ⟨_, rfl, ?_, fun _ => ?_⟩) ?_
  · have hi := List.mem_range.mp hi
    have c1 : (1 : Int) + (i : Nat) = ((i + 1 : Nat) : Int) := by omega
    have c2 : (1 : Int) + (i : Nat) - 1 = ((i : Nat) : Int) := by omega
    simp
    rw [c2, c1]
    refine ⟨_, ix_t (by omega), _, ix_t (by omega), ?_⟩
    simp
    omega
  · simp
  · have eq0 : eqLD (.lst (((List.range (r.length - 1)).filter fun i => decide (gt r (i + 1) = gt r i + 1)).map fun i => D.int (1 + (i : Nat)))) (.lst []) = some (.bl (isStd r)) := by
      unfold isStd
      cases h : (List.range (r.length - 1)).filter fun i => decide (gt r (i + 1) = gt r i + 1) with
      | nil => rfl
      | cons a t => show some (D.bl false) = _; simp
    simp [eq0]
    exact q
def odn (b : Nat) (only : Bool) : List (List Nat) := (ors b b).filter fun r => !only || isStd r
theorem w_all {n b : Nat} {only : Bool} (h1 : 1 ≤ b) (hb : b ≤ 6) (hn : b ≤ n) (h6 : n ≤ 6) (q : ∀ ds : List D, ds.length = (szs b n).length * (odn b only).length → P (.lst ds) j) : WF F_all [.int (n : Nat), .int (b : Nat), .bl only] j P E := by
  refine a_run rfl ?_
  show f_all [some (.int (n : Nat)), some (.int (b : Nat)), some (.bl only), none, none, none, none] j _ _
  have hL := LN
  have hM := LM
  have om := ors_many b (by omega) b (by omega)
  have orl := ors_len (b := b) b
  have sm' := szs_many b (by omega) n (by omega)
  have mul := Nat.mul_le_mul sm' om
  simp [f_all]
  refine w_orders hb ?_
  refine ⟨_, rfl, by rw [List.length_map]; omega, ?_⟩
  refine wC_filter (L := ors b b) (c := tN) (fun r => !only || isStd r) tN (fun r hr => ⟨_, rfl, ?_, fun _ => ?_⟩) ?_
  · have rl := orl r hr
    cases only with
    | false => simp [truD]
    | true =>
      simp [truD]
      refine w_is_std (by omega) ?_
      simp [truD]
  · simp
  · have el : odn b only = (ors b b).filter fun r => !only || isStd r := rfl
    rw [← el]
    have ol : (odn b only).length ≤ 720 := Nat.le_trans (List.length_filter_le _ _) om
    have mul2 := Nat.mul_le_mul sm' ol
    generalize odn b only = od at *
    simp
    refine w_sizes_f 8 b n h1 (by omega) hn h6 ?_
    refine ⟨_, rfl, ?_⟩
    refine wL_inv (fun k m j' => j' = j ∧ ∃ ds x y, ds.length = k * od.length ∧ Is m [some (.int (n : Nat)), some (.int (b : Nat)), some (.bl only), some (.lst (od.map tN)), some (.lst ds), x, y]) ⟨rfl, [], none, none, by simp, rfl⟩ ?_ ?_
    · rintro k d m j' hd ⟨rfl, ds, x, y, hds, rfl⟩
      have hk : k < (szs b n).length := by have := (List.getElem?_eq_some_iff.mp hd).1; rwa [List.length_map] at this
      have mk : (k + 1) * od.length ≤ (szs b n).length * od.length := Nat.mul_le_mul_right _ hk
      rw [Nat.add_mul, Nat.one_mul] at mk
      refine ⟨_, rfl, ?_⟩
      simp
      refine ⟨by omega, ?_⟩
      refine wC_map (L := od) (c := tN) (fun r => .tup [d, tN r]) (fun r hr => ⟨_, rfl, ?_⟩) ?_
      · simp [LN]
      · refine ⟨_, rfl, by rw [List.length_map]; omega, rfl, _, _, _, ?_, rfl⟩
        rw [List.length_append, List.length_map, hds, Nat.add_mul, Nat.one_mul]
    · rintro m j' ⟨rfl, ds, x, y, hds, rfl⟩
      rw [List.length_map] at hds
      simp
      exact q ds hds
end
section
variable {j : Nat} {P : D → Nat → Prop} {E : Ex → Nat → Prop}
theorem rep2 {a b : Int} (ha : -(10 ^ 70) < a ∧ a < 10 ^ 70) (hb : -(10 ^ 70) < b ∧ b < 10 ^ 70) : ∃ y, reprB [.lst [.int a, .int b]] = some (.str y) := by
  have len : ∀ i : Int, -(10 ^ 70) < i ∧ i < 10 ^ 70 → (PyData.shown (.int i)).length ≤ 100 := fun i h => by
    have e := int_text_length_le10 (a := i) (k := 70) (by decide) (by omega)
    show (Str.ofString (toString i)).length ≤ 100
    rw [PySem.ofString_length]
    exact Nat.le_trans e (by decide)
  have shw : ∀ i : Int, -(10 ^ 70) < i ∧ i < 10 ^ 70 → PyData.showable (.int i) = true := fun i h => by
    show decide _ = true
    rw [decide_eq_true_eq]
    by_cases c : i.natAbs = 0
    · rw [c]; decide
    · have h1 : i.natAbs.log2 < 240 := (Nat.log2_lt c).mpr (Nat.lt_of_lt_of_le (m := 10 ^ 70) (by omega) (by decide))
      omega
  have l1 := listText_len_le (PyData.shownAll [.int a, .int b])
  have la := len a ha
  have lb := len b hb
  have e0 : py (.lst [.int a, .int b]) = some (.list [.int a, .int b]) := by unfold py; rfl
  refine ⟨PyData.shown (.list [.int a, .int b]), ?_⟩
  have e1 : PyData.showable (.list [.int a, .int b]) = true := by
    show PyData.showableAll [.int a, .int b] = true
    unfold PyData.showableAll PyData.showableAll PyData.showableAll
    rw [shw a ha, shw b hb]; rfl
  have e2 : (PyData.shown (.list [.int a, .int b])).length ≤ LINE := by
    show (listText (PyData.shownAll [.int a, .int b])).length ≤ LINE
    have hL := LN
    unfold PyData.shownAll PyData.shownAll PyData.shownAll at l1 ⊢
    simp only [List.map_cons, List.map_nil, List.sum_cons, List.sum_nil, List.length_cons, List.length_nil] at l1
    omega
  show (match reprD _ with | some x => some (D.str x) | none => none) = _
  unfold reprD
  rw [e0]
  have e3 : (PyData.list [.int a, .int b]).depth ≤ 60 := by
    show PyData.depthAll [.int a, .int b] + 1 ≤ 60
    simp [PyData.depthAll, PyData.depth]
  simp only [e1, e2, e3, decide_true, Bool.and_self, if_true]
end
section
variable {j : Nat} {P : D → Nat → Prop} {E : Ex → Nat → Prop}
theorem bn_small {n b : Nat} (hn : n ≤ 8) (hb : b ≤ 8) : Bn (n - 1) (b - 1) := ⟨by omega, by omega, fun i hi => by
  have c1 : chs (n - 1) i ≤ 7 ^ i := Nat.le_trans (chs_le _ _) (Nat.pow_le_pow_left (by omega) _)
  have c2 : 7 ^ i ≤ 7 ^ 7 := Nat.pow_le_pow_right (by decide) (by omega)
  have c3 : (7 : Nat) ^ 7 ≤ 10 ^ 59 := by decide
  omega⟩
theorem bn_big {n b : Nat} (hn : n ≤ 10 ^ 12) (hb : b ≤ 6) : Bn (n - 1) (b - 1) := ⟨by omega, by omega, fun i hi => by
  have c1 : chs (n - 1) i ≤ (10 ^ 12) ^ i := Nat.le_trans (chs_le _ _) (Nat.pow_le_pow_left (by omega) _)
  have c2 : (10 ^ 12) ^ i ≤ (10 ^ 12) ^ 4 := Nat.pow_le_pow_right (by decide) (by omega)
  have c3 : (10 ^ 12) ^ 4 ≤ 10 ^ 59 := by decide
  omega⟩
theorem cex_b {n b : Nat} {st : Bool} (h : Bn (n - 1) (b - 1)) (h1 : 1 ≤ b) (hb : b ≤ 6) : -(10 ^ 70) < cex n b st ∧ cex n b st < 10 ^ 70 := by
  have wsm : ∀ b, b < 9 → ∀ st : Bool, 0 ≤ wys b st ∧ wys b st ≤ 10 ^ 9 := by decide
  have hw := wsm b (by omega) st
  have hs := sm_iff.mp (bin_sm h h1 (.inl hb) (by omega))
  unfold cex
  have l0 : (0 : Int) ≤ (bin (n - 1) (b - 1) : Nat) * wys b st := Int.mul_nonneg (by omega) hw.1
  have l1 : ((bin (n - 1) (b - 1) : Nat) : Int) * wys b st ≤ 10 ^ 60 * 10 ^ 9 := Int.mul_le_mul (by omega) hw.2 hw.1 (by decide)
  have l2 : (10 : Int) ^ 60 * 10 ^ 9 < 10 ^ 70 := by decide
  exact ⟨by omega, by omega⟩
theorem all_num : ∀ b, b < 7 → 1 ≤ b → ∀ n, n < 7 → b ≤ n → ∀ st : Bool, (((szs b n).length * (odn b st).length : Nat) : Int) = cex n b st := by decide +kernel
def tlS : Sv Nat := sSeq (sSet 3 (eLst (aCons (eCallD F_p_count_exchanges (.bl false) (aCons (eVar 0) (aCons (eVar 1) aNil))) (aCons (eCallK F_p_count_exchanges (aCons (eVar 0) (aCons (eVar 1) aNil)) (eC (.bl true))) aNil))))
    (sSeq (sRet (eAnd (eOp eqD (eB reprB (aCons (eVar 3) aNil)) (eB reprB (aCons (eVar 2) aNil))) (eOp eqD (eCallK F_p_count_exchanges (aCons (eVar 0) (aCons (eVar 1) aNil)) (eC (.bl false))) (eOp idxD (eVar 2) (eC (.int 0))))))
    sNil)
theorem w_small_right {n b : Nat} (hn1 : 1 ≤ n) (hn : n ≤ 6) (h1 : 1 ≤ b) (hb : b ≤ 6) (q : P (.bl true) j) : WF F_small_right [.int (n : Nat), .int (b : Nat)] j P E := by
  refine a_run rfl ?_
  show f_small_right [some (.int (n : Nat)), some (.int (b : Nat)), none, none] j _ _
  have hL := LN
  have bn := bn_small (n := n) (b := b) (by omega) (by omega)
  obtain ⟨y, hy⟩ := rep2 (cex_b (st := false) bn h1 hb) (cex_b (st := true) bn h1 hb)
  have tl : ∀ {m : Sd}, m = [some (.int (n : Nat)), some (.int (b : Nat)), some (.lst [.int (cex n b false), .int (cex n b true)]), none] → tlS m j (endF P) (fun e x j' => E e j') := fun {m} hm => by
    subst hm
    simp [tlS]
    refine w_cex hn1 bn h1 (by omega) (.inl hb) ?_
    refine ⟨_, rfl, _, rfl, ?_⟩
    refine w_cex hn1 bn h1 (by omega) (.inl hb) ?_
    refine ⟨by omega, ?_⟩
    simp [hy, truD]
    refine w_cex hn1 bn h1 (by omega) (.inl hb) ?_
    refine ⟨_, rfl, _, rfl, _, rfl, ?_⟩
    simp
    exact q
  show sSeq _ tlS _ _ _ _
  refine wSeq (fun fl m' j' => fl = .next ∧ j' = j ∧ m' = [some (.int (n : Nat)), some (.int (b : Nat)), some (.lst [.int (cex n b false), .int (cex n b true)]), none]) ?_ ?_
  · simp
    by_cases c : b ≤ n
    · refine .inr ⟨by omega, ?_⟩
      refine w_all h1 hb c hn fun ds hds => ?_
      have an := all_num b (by omega) h1 n (by omega) c
      simp
      refine w_all h1 hb c hn fun ds2 hds2 => ?_
      simp [hds, hds2]
      have a1 := an false
      have a2 := an true
      rw [Int.natCast_mul] at a1 a2
      exact ⟨by omega, a1, a2⟩
    · refine .inl ⟨by omega, ?_⟩
      have z : ∀ st, cex n b st = 0 := fun st => by
        unfold cex bin
        rw [if_neg (by omega)]
        exact Int.zero_mul _
      exact ⟨by omega, (z _).symm, (z _).symm⟩
  · rintro fl m' j' ⟨rfl, rfl, rfl⟩
    exact tl rfl
end
section
theorem law_holds : ∀ j : Nat, Few j → f_law (Mp.m0 N_law.length) j (fun l _ _ => l = .ret (.bl true)) xNo := by
  intro j hj
  show f_law [none, some .jar, none, none, none, none, none, none] j _ _
  have hL := LN
  have hM := LM
  have hN : NMAX = 1000000000 := rfl
  have hj : j ≤ 1000000 := hj
  have e12 : powD (.int 10) (.int 12) = some (.int 1000000000000) := rfl
  have md : ∀ k : Nat, modD (.int (k : Nat)) (.int 2) = some (.int ((k % 2 : Nat) : Int)) := fun k => by rw [mod_i (by decide)]; rfl
  simp [f_law]
  refine ⟨by omega, by omega, ?_⟩
  refine wL_inv (fun k m j' => j' ≤ j + 10 * k ∧ ∃ a b c d e f, Is m [none, some .jar, a, b, c, d, e, f]) ⟨by omega, none, none, none, none, none, none, rfl⟩ ?_ ?_
  · rintro k dd m j1 hd ⟨hj1, a, b, c, d, e, f, rfl⟩
    obtain ⟨hlt, rfl⟩ := dN_at (O := List.range 6) (by rw [← rng_N]; exact hd)
    rw [List.length_range] at hlt
    rw [gt_range hlt]
    refine ⟨_, rfl, ?_⟩
    obtain ⟨mo, hm1, hm2, hm3⟩ : ∃ mo : Nat, idxD (.lst [.int 4, .int 6]) (.int (((k : Nat) : Int) % 2)) = some (.int (mo : Nat)) ∧ 1 ≤ mo ∧ mo ≤ 6 := by
      have : k % 2 = 0 ∨ k % 2 = 1 := by omega
      rw [show ((k : Nat) : Int) % 2 = ((k % 2 : Nat) : Int) by omega]
      rcases this with z | z <;> rw [z]
      · exact ⟨4, rfl, by omega, by omega⟩
      · exact ⟨6, rfl, by omega, by omega⟩
    simp [md, hm1]
    refine w_draw (k := 6) (by decide) (by decide) (by omega) fun x hx => ?_
    simp [md, hm1]
    refine ⟨by omega, ?_⟩
    refine w_draw (by omega) (by omega) (by omega) fun y hy => ?_
    have ex : (1 : Int) + (x : Nat) = ((1 + x : Nat) : Int) := by push_cast; rfl
    have ey : (1 : Int) + (y : Nat) = ((1 + y : Nat) : Int) := by push_cast; rfl
    refine ⟨_, rfl, ?_⟩
    rw [ex, ey]
    refine w_small_right (by omega) (by omega) (by omega) (by omega) ?_
    simp
    exact ⟨by omega, _, _, _, _, _, _, rfl⟩
  · rintro m j1 ⟨hj1, a, b, c, d, e, f, rfl⟩
    rw [rngD_length] at hj1
    simp
    refine ⟨by omega, by omega, ?_⟩
    refine wL_inv (fun k m j' => j' ≤ j1 + 10 * k ∧ ∃ a b c d e f, Is m [none, some .jar, a, b, c, d, e, f]) ⟨by omega, _, _, _, _, _, _, rfl⟩ ?_ ?_
    · rintro k dd m j2 hd ⟨hj2, a, b, c, d, e, f, rfl⟩
      obtain ⟨hlt, rfl⟩ := dN_at (O := List.range 4) (by rw [← rng_N]; exact hd)
      rw [List.length_range] at hlt
      rw [gt_range hlt]
      refine ⟨_, rfl, ?_⟩
      obtain ⟨mo, hm1, hm2, hm3⟩ : ∃ mo : Nat, idxD (.lst [.int 12, .int 1000000000000]) (.int (((k : Nat) : Int) % 2)) = some (.int (mo : Nat)) ∧ 1 ≤ mo ∧ mo ≤ 10 ^ 12 := by
        have : k % 2 = 0 ∨ k % 2 = 1 := by omega
        rw [show ((k : Nat) : Int) % 2 = ((k % 2 : Nat) : Int) by omega]
        rcases this with z | z <;> rw [z]
        · exact ⟨12, rfl, by omega, by omega⟩
        · exact ⟨1000000000000, rfl, by omega, by omega⟩
      simp [md, hm1, e12]
      refine ⟨by omega, ?_⟩
      refine w_draw (by omega) (by omega) (by omega) fun x hx => ?_
      refine ⟨_, rfl, _, rfl, ?_⟩
      refine w_draw (j := j2 + 1) (k := 6) (by decide) (by decide) (by omega) fun y hy => ?_
      have ex : (1 : Int) + (x : Nat) = ((1 + x : Nat) : Int) := by push_cast; rfl
      have ey : (1 : Int) + (y : Nat) = ((1 + y : Nat) : Int) := by push_cast; rfl
      obtain ⟨n, hn⟩ : ∃ n, n = 1 + x := ⟨_, rfl⟩
      obtain ⟨b', hb'⟩ : ∃ b', b' = 1 + y := ⟨_, rfl⟩
      have n1 : 1 ≤ n := by omega
      have nb : n ≤ 10 ^ 12 := by omega
      have b1 : 1 ≤ b' := by omega
      have b6 : b' ≤ 6 := by omega
      have bn := bn_big nb b6
      obtain ⟨yy, hyy⟩ := rep2 (cex_b (st := false) bn b1 b6) (cex_b (st := true) bn b1 b6)
      refine ⟨_, rfl, _, rfl, _, rfl, ?_⟩
      rw [ex, ey, ← hn, ← hb']
      refine w_lcount n1 bn b1 b6 ?_
      refine ⟨_, rfl, _, rfl, ?_⟩
      refine w_lcount n1 bn b1 b6 ?_
      refine ⟨by omega, _, rfl, by omega, by omega, ?_⟩
      refine wL_inv (fun _ m j' => j' = j2 + 1 + 1 ∧ ∃ a f e', Is m [none, some .jar, a, some (.int (n : Nat)), some (.int (b' : Nat)), some (.lst [.int (cex n b' false), .int (cex n b' true)]), e', f]) ⟨rfl, _, _, _, rfl⟩ ?_ ?_
      · rintro k2 dd m j3 hd2 ⟨rfl, a, f, e', rfl⟩
        refine ⟨_, rfl, ?_⟩
        simp
        refine w_cex n1 bn b1 (by omega) (.inl b6) ?_
        refine ⟨_, rfl, _, rfl, ?_⟩
        refine w_cex n1 bn b1 (by omega) (.inl b6) ?_
        refine ⟨by omega, ?_⟩
        simp [hyy]
        exact ⟨_, _, _, rfl⟩
      · rintro m j3 ⟨rfl, a, f, e', rfl⟩
        simp
        exact ⟨by omega, _, _, _, _, _, _, rfl⟩
    · rintro m j2 ⟨hj2, a, b, c, d, e, f, rfl⟩
      simp
      refine ⟨by omega, ?_⟩
      have c8 : cex 8 1 true = 1 ∧ cex 8 2 true = 7 ∧ cex 8 8 true = 16687 := by decide
      have el : [D.int 1, D.int 2, D.int 8] = ([1, 2, 8] : List Nat).map fun x => D.int (x : Nat) := rfl
      rw [el]
      refine wC_map (L := ([1, 2, 8] : List Nat)) (c := fun x => D.int (x : Nat)) (fun x => D.int (cex 8 x true)) (fun x hx => ⟨_, rfl, ?_⟩) ?_
      · simp only [List.mem_cons, List.not_mem_nil, or_false] at hx
        simp
        refine w_cex (n := 8) (by decide) (bn_small (by decide) (by omega)) (by omega) (by omega) (.inr (by decide)) ?_
        exact ⟨rfl, rfl⟩
      · have e3 : (([1, 2, 8] : List Nat).map fun x => D.int (cex 8 x true)) = [.int 1, .int 7, .int 16687] := by
          simp [c8.1, c8.2.1, c8.2.2]
        rw [e3]
        exact ⟨by omega, _, rfl, rfl⟩
end

end Lw
namespace Lw
open PySem PySem.Spec L2 Mp
open PyProof.Rows hiding St

theorem ok_law {P : Program} {w : World} {K : PySem.W.Frag} {mg : Str → Option Value} {base : Heap} {cl xc : Nat → Addr} {xf : Nat → Str} {f fo : Addr} {fd fdo : FuncData} (hB : Blt mg) (hC : Cst mg) (C_count : ∀ R, Cal (jsND K cl xc xf R) P w mg base 2 "_law_count" 3 F_count) (C_roll : ∀ R, Cal (jsND K cl xc xf R) P w mg base 1 "_law_roll" 2 drawF) (C_small_right : ∀ R, Cal (jsND K cl xc xf R) P w mg base 11 "_law_small_right" 2 F_small_right) (C_p_count_exchanges : ∀ R, CalK (jsND K cl xc xf R) P w mg base 4 "count_exchanges" 2 "standard" (.bl false) F_p_count_exchanges)  (F : L2.Fun K "law" "law" st_law f fd)
    (FO : FnG P w K mg base CX0 1 fo fdo ["_law_script"] (spOpenG (jsND K cl xc xf) Few K)) (mo : mg "_law_opened" = some (.ref fo)) (ko : PySem.W.keepIn K (.ref fo) = true) (bo : Binds K fdo ["_law_script"] []) : FnG P w K mg base CX0 12 f fd ["_law_script"] (spLaw K) := by
  refine fnG_sp F sc_law (fun vs H Q E h => ?_) (fun cdv A outer s H vs Q E hr hgd h => ⟨_, pss_cons (ps_set (i := 1) sc_law.nd rfl (by first | exact Or.inl rfl | exact Or.inr rfl) (pe_callG FO (hr.mono (by decide)) hgd rfl mo ko bo .nil pass0 (pa_cons (pv 0) pa_nil) (by decide) rfl rfl))
      (pss_ex (t := fun RB : Addr × Bs => rdS (jsND K cl xc xf RB.1) RB.2 M_law W0 f_law) fun RB => b_law hB hC (C_count _) (C_roll _) (C_small_right _) (C_p_count_exchanges _)  hr hgd), law_pureG (fun _ => rfl) (by decide) (by decide) law_holds h⟩)
  obtain ⟨_, _, rfl, _⟩ := h
  rfl


theorem all_mk {P : Program} {w : World} {K : PySem.W.Frag} {h : Heap} {mg : Str → Option Value} {fa f0 f1 f2 f3 f4 f5 f6 f7 f8 f9 f10 f11 f12 : Addr} (X : K.In h) (G : h.Ns mainGlobals mg) (hfa : mg "law" = some (.ref fa))
    {od0 od1 od2 od3 od4 od5 od6 od7 od8 od9 od10 od11 od12 an0 an1 an2 an3 an4 an5 an6 an7 an8 an9 an10 an11 an12 : Option Addr} {sl0 sl1 sl2 sl3 sl4 sl5 sl6 sl7 sl8 sl9 sl10 sl11 sl12 : Array (Option Value)} {oc0 dc0 pm0 cd0 ct0 kV0 oc1 dc1 pm1 cd1 ct1 kV1 oc2 dc2 pm2 cd2 ct2 kV2 oc3 dc3 pm3 cd3 ct3 kV3 oc4 dc4 pm4 cd4 ct4 oc5 dc5 pm5 cd5 ct5 kV5 oc6 dc6 pm6 cd6 ct6 kV6 oc7 dc7 pm7 cd7 ct7 kV7 oc8 dc8 pm8 cd8 ct8 kV8 oc9 dc9 pm9 cd9 ct9 kV9 oc10 dc10 pm10 cd10 ct10 kV10 oc11 dc11 pm11 cd11 ct11 kV11 oc12 dc12 pm12 cd12 ct12 kV12 : Value} {KD4 : Addr} (sm0 : K.lookup sysModules = none)
        (a0 : PySem.W.nsIn K mainGlobals "_law_opened" = some (some (.ref f0))) (l0 : K.lookup f0 = some ⟨oc0, od0, .func (PySem.W.fnOf "_law_opened" "_law_opened" (defArgs st_opened) (defBody st_opened) (defScope st_opened) .none kV0 dc0 pm0 an0 cd0 ct0), sl0⟩) (c0 : PySem.W.codeIn K cd0 "_law_opened" = true) (k0 : PySem.W.keepIn K (.ref f0) = true)
    (a1 : PySem.W.nsIn K mainGlobals "_law_roll" = some (some (.ref f1))) (l1 : K.lookup f1 = some ⟨oc1, od1, .func (PySem.W.fnOf "_law_roll" "_law_roll" (defArgs st_roll) (defBody st_roll) (defScope st_roll) .none kV1 dc1 pm1 an1 cd1 ct1), sl1⟩) (c1 : PySem.W.codeIn K cd1 "_law_roll" = true) (k1 : PySem.W.keepIn K (.ref f1) = true)
    (a2 : PySem.W.nsIn K mainGlobals "binomial" = some (some (.ref f2))) (l2 : K.lookup f2 = some ⟨oc2, od2, .func (PySem.W.fnOf "binomial" "binomial" (defArgs st_p_binomial) (defBody st_p_binomial) (defScope st_p_binomial) .none kV2 dc2 pm2 an2 cd2 ct2), sl2⟩) (c2 : PySem.W.codeIn K cd2 "binomial" = true) (k2 : PySem.W.keepIn K (.ref f2) = true)
    (a3 : PySem.W.nsIn K mainGlobals "factorial" = some (some (.ref f3))) (l3 : K.lookup f3 = some ⟨oc3, od3, .func (PySem.W.fnOf "factorial" "factorial" (defArgs st_p_factorial) (defBody st_p_factorial) (defScope st_p_factorial) .none kV3 dc3 pm3 an3 cd3 ct3), sl3⟩) (c3 : PySem.W.codeIn K cd3 "factorial" = true) (k3 : PySem.W.keepIn K (.ref f3) = true)
    (a4 : PySem.W.nsIn K mainGlobals "count_exchanges" = some (some (.ref f4))) (l4 : K.lookup f4 = some ⟨oc4, od4, .func (PySem.W.fnOf "count_exchanges" "count_exchanges" (defArgs st_p_count_exchanges) (defBody st_p_count_exchanges) (defScope st_p_count_exchanges) .none (.ref KD4) dc4 pm4 an4 cd4 ct4), sl4⟩) (c4 : PySem.W.codeIn K cd4 "count_exchanges" = true) (k4 : PySem.W.keepIn K (.ref f4) = true)
    (a5 : PySem.W.nsIn K mainGlobals "_law_sizes" = some (some (.ref f5))) (l5 : K.lookup f5 = some ⟨oc5, od5, .func (PySem.W.fnOf "_law_sizes" "_law_sizes" (defArgs st_sizes) (defBody st_sizes) (defScope st_sizes) .none kV5 dc5 pm5 an5 cd5 ct5), sl5⟩) (c5 : PySem.W.codeIn K cd5 "_law_sizes" = true) (k5 : PySem.W.keepIn K (.ref f5) = true)
    (a6 : PySem.W.nsIn K mainGlobals "_law_orders" = some (some (.ref f6))) (l6 : K.lookup f6 = some ⟨oc6, od6, .func (PySem.W.fnOf "_law_orders" "_law_orders" (defArgs st_orders) (defBody st_orders) (defScope st_orders) .none kV6 dc6 pm6 an6 cd6 ct6), sl6⟩) (c6 : PySem.W.codeIn K cd6 "_law_orders" = true) (k6 : PySem.W.keepIn K (.ref f6) = true)
    (a7 : PySem.W.nsIn K mainGlobals "_law_is_standard" = some (some (.ref f7))) (l7 : K.lookup f7 = some ⟨oc7, od7, .func (PySem.W.fnOf "_law_is_standard" "_law_is_standard" (defArgs st_is_standard) (defBody st_is_standard) (defScope st_is_standard) .none kV7 dc7 pm7 an7 cd7 ct7), sl7⟩) (c7 : PySem.W.codeIn K cd7 "_law_is_standard" = true) (k7 : PySem.W.keepIn K (.ref f7) = true)
    (a8 : PySem.W.nsIn K mainGlobals "_law_all" = some (some (.ref f8))) (l8 : K.lookup f8 = some ⟨oc8, od8, .func (PySem.W.fnOf "_law_all" "_law_all" (defArgs st_all) (defBody st_all) (defScope st_all) .none kV8 dc8 pm8 an8 cd8 ct8), sl8⟩) (c8 : PySem.W.codeIn K cd8 "_law_all" = true) (k8 : PySem.W.keepIn K (.ref f8) = true)
    (a9 : PySem.W.nsIn K mainGlobals "_law_small_right" = some (some (.ref f9))) (l9 : K.lookup f9 = some ⟨oc9, od9, .func (PySem.W.fnOf "_law_small_right" "_law_small_right" (defArgs st_small_right) (defBody st_small_right) (defScope st_small_right) .none kV9 dc9 pm9 an9 cd9 ct9), sl9⟩) (c9 : PySem.W.codeIn K cd9 "_law_small_right" = true) (k9 : PySem.W.keepIn K (.ref f9) = true)
    (a10 : PySem.W.nsIn K mainGlobals "_law_choose" = some (some (.ref f10))) (l10 : K.lookup f10 = some ⟨oc10, od10, .func (PySem.W.fnOf "_law_choose" "_law_choose" (defArgs st_choose) (defBody st_choose) (defScope st_choose) .none kV10 dc10 pm10 an10 cd10 ct10), sl10⟩) (c10 : PySem.W.codeIn K cd10 "_law_choose" = true) (k10 : PySem.W.keepIn K (.ref f10) = true)
    (a11 : PySem.W.nsIn K mainGlobals "_law_count" = some (some (.ref f11))) (l11 : K.lookup f11 = some ⟨oc11, od11, .func (PySem.W.fnOf "_law_count" "_law_count" (defArgs st_count) (defBody st_count) (defScope st_count) .none kV11 dc11 pm11 an11 cd11 ct11), sl11⟩) (c11 : PySem.W.codeIn K cd11 "_law_count" = true) (k11 : PySem.W.keepIn K (.ref f11) = true)
    (a12 : PySem.W.nsIn K mainGlobals "law" = some (some (.ref f12))) (l12 : K.lookup f12 = some ⟨oc12, od12, .func (PySem.W.fnOf "law" "law" (defArgs st_law) (defBody st_law) (defScope st_law) .none kV12 dc12 pm12 an12 cd12 ct12), sl12⟩) (c12 : PySem.W.codeIn K cd12 "law" = true) (k12 : PySem.W.keepIn K (.ref f12) = true)
    {D0 : Addr}
{mf0 : Addr} {mod0 man0 : Option Addr} {msl0 : Array (Option Value)} {moc0 mkV0 mdc0 mpm0 mcd0 mct0 : Value}
{mf1 : Addr} {mod1 man1 : Option Addr} {msl1 : Array (Option Value)} {moc1 mkV1 mdc1 mpm1 mcd1 mct1 : Value}
{mf2 : Addr} {mod2 man2 : Option Addr} {msl2 : Array (Option Value)} {moc2 mkV2 mdc2 mpm2 mcd2 mct2 : Value} (za0 : PySem.W.nsIn K mainGlobals "Orders" = some (some (.ref D0)))
(zb0 : PySem.W.plainGet K D0 Str.empty = true)
(zc0 : PySem.W.hasDictIn K D0 = true)
(zd0 : PySem.W.plainOver K D0 = true)
(ze0 : PySem.W.findIn K (.ref D0) "__setattr__" = some (some (.builtin "object.__setattr__")))
(zm0 : PySem.W.makesIn K D0 = true)
(zk0 : PySem.W.keepIn K (.ref D0) = true)
(zn0_0 : PySem.W.findIn K (.ref D0) "blocks" = some none)
(zn0_1 : PySem.W.findIn K (.ref D0) "standard" = some none)
(wa0 : PySem.W.findIn K (.ref D0) "ways" = some (some (.ref mf0)))
(wl0 : K.lookup mf0 = some ⟨moc0, mod0, .func (PySem.W.fnOf "ways" "Orders.ways" (defArgs st_Orders_ways) (defBody st_Orders_ways) (defScope st_Orders_ways) .none mkV0 mdc0 mpm0 man0 mcd0 mct0), msl0⟩)
(wc0 : PySem.W.codeIn K mcd0 "Orders.ways" = true)
(wk0 : PySem.W.keepIn K (.ref mf0) = true)
(wf0 : PySem.W.isFn K (.ref mf0) = true)
(wa1 : PySem.W.findIn K (.ref D0) "count" = some (some (.ref mf1)))
(wl1 : K.lookup mf1 = some ⟨moc1, mod1, .func (PySem.W.fnOf "count" "Orders.count" (defArgs st_Orders_count) (defBody st_Orders_count) (defScope st_Orders_count) .none mkV1 mdc1 mpm1 man1 mcd1 mct1), msl1⟩)
(wc1 : PySem.W.codeIn K mcd1 "Orders.count" = true)
(wk1 : PySem.W.keepIn K (.ref mf1) = true)
(wf1 : PySem.W.isFn K (.ref mf1) = true)
(wa2 : PySem.W.findIn K (.ref D0) "__init__" = some (some (.ref mf2)))
(wl2 : K.lookup mf2 = some ⟨moc2, mod2, .func (PySem.W.fnOf "__init__" "Orders.__init__" (defArgs st_Orders___init__) (defBody st_Orders___init__) (defScope st_Orders___init__) .none mkV2 mdc2 mpm2 man2 mcd2 mct2), msl2⟩)
(wc2 : PySem.W.codeIn K mcd2 "Orders.__init__" = true)
(wk2 : PySem.W.keepIn K (.ref mf2) = true)
(wf2 : PySem.W.isFn K (.ref mf2) = true)
(kd4 : PySem.W.nsIn K KD4 "standard" = some (some (.bool false)))
    (n0 : PySem.W.nsIn K mainGlobals "abs" = some none) (n1 : PySem.W.nsIn K mainGlobals "int" = some none) (n2 : PySem.W.nsIn K mainGlobals "len" = some none) (n3 : PySem.W.nsIn K mainGlobals "range" = some none) (n4 : PySem.W.nsIn K mainGlobals "repr" = some none) (n5 : PySem.W.nsIn K mainGlobals "tuple" = some none)   : K.lookup sysModules = none ∧
    ∃ fd : FuncData, (∀ (s : Shared) (u : Value), BindsTo s fd ⟨[u], []⟩ [("_law_script", u)]) ∧ ∀ base : Heap, K.In base → base.Ns mainGlobals mg → FnG P w K mg base CX0 12 fa fd ["_law_script"] (spLaw K) := by
  have e := hfa.symm.trans (PySem.W.mg_of X G a12)
  cases e
  have hB : Blt mg := fun x hx => by
    simp only [bnames, List.mem_cons, List.not_mem_nil, or_false] at hx
    rcases hx with rfl | rfl | rfl | rfl | rfl | rfl
    · exact PySem.W.mg_none_of X G n0
    · exact PySem.W.mg_none_of X G n1
    · exact PySem.W.mg_none_of X G n2
    · exact PySem.W.mg_none_of X G n3
    · exact PySem.W.mg_none_of X G n4
    · exact PySem.W.mg_none_of X G n5
  have hC : Cst mg := fun x hx => by
    unfold cnames at hx; cases hx

  have V_0 : ∀ {J : Type} (S : Js J), Lk K (clT D0) (fun _ => 0) (fun _ => "") S → ClsT S 0 at_Orders := fun S h => by
    obtain ⟨e1, e2, e3, e4⟩ := h
    have c1 : S.cl 0 = D0 := by rw [e2]; rfl
    refine ⟨by rw [e1, c1]; exact ⟨zb0, zc0, zd0, ze0⟩, fun f hf => ?_⟩
    rw [e1, c1]
    simp only [at_Orders, List.mem_cons, List.not_mem_nil, or_false] at hf; rcases hf with rfl | rfl
    · exact zn0_0
    · exact zn0_1
  have T_0 : ∀ R, ClsT (jsND K (clT D0) (fun _ => 0) (fun _ => "") R) 0 at_Orders := fun R => V_0 (jsND K (clT D0) (fun _ => 0) (fun _ => "") R) ⟨rfl, rfl, rfl, rfl⟩
  have MF0 := fun_mk (st := st_Orders_ways) wl0 wc0 wk0
  have Q_Orders_ways : MF K (clT D0) 0 "ways" "Orders.ways" st_Orders_ways ["self", "left", "last"] := ⟨_, _, MF0, ⟨wa0, wf0, wk0⟩, MF0.binds (ps := ["self", "left", "last"]) fun _ _ _ _ _ _ us hl => match us, hl with | [_, _, _], _ => rfl⟩
  have MF1 := fun_mk (st := st_Orders_count) wl1 wc1 wk1
  have Q_Orders_count : MF K (clT D0) 0 "count" "Orders.count" st_Orders_count ["self"] := ⟨_, _, MF1, ⟨wa1, wf1, wk1⟩, MF1.binds (ps := ["self"]) fun _ _ _ _ _ _ us hl => match us, hl with | [_], _ => rfl⟩
  have MF2 := fun_mk (st := st_Orders___init__) wl2 wc2 wk2
  have Q_Orders___init__ : MI K (clT D0) 0 "__init__" "Orders.__init__" st_Orders___init__ ["self", "blocks", "standard"] := ⟨_, _, MF2, ⟨zm0, wa2, wf2, zk0⟩, MF2.binds (ps := ["self", "blocks", "standard"]) fun _ _ _ _ _ _ us hl => match us, hl with | [_, _, _], _ => rfl⟩
  have F0 := fun_mk (st := st_opened) l0 c0 k0
  have b0 := F0.binds (ps := ["_law_script"]) fun _ _ _ _ _ _ us hl => match us, hl with | [_], _ => rfl
  have m0 := PySem.W.mg_of X G a0
  have F1 := fun_mk (st := st_roll) l1 c1 k1
  have b1 := F1.binds (ps := ["_law_deal", "_law_many"]) fun _ _ _ _ _ _ us hl => match us, hl with | [_, _], _ => rfl
  have m1 := PySem.W.mg_of X G a1
  have F2 := fun_mk (st := st_p_binomial) l2 c2 k2
  have b2 := F2.binds (ps := ["total", "some"]) fun _ _ _ _ _ _ us hl => match us, hl with | [_, _], _ => rfl
  have m2 := PySem.W.mg_of X G a2
  have F3 := fun_mk (st := st_p_factorial) l3 c3 k3
  have b3 := F3.binds (ps := ["many"]) fun _ _ _ _ _ _ us hl => match us, hl with | [_], _ => rfl
  have m3 := PySem.W.mg_of X G a3
  have F4 := fun_mk (st := st_p_count_exchanges) l4 c4 k4
  have b4 := binds_kw (dv := dvV (.bl false)) (hr := rfl) (n := 2) (kw := "standard") (ps := ["n", "blocks", "standard"]) l4 c4 k4 kd4 rfl (fun _ _ _ _ _ _ us ks h1 h2 => match us, ks, h1, h2 with | [_, _], [_], _, _ => ⟨_, _, _, _, _, _, rfl, rfl, rfl⟩)
  have e4 : ∀ (s : Shared) (us ws : List Value), K.In s.heap → us.length = 2 → ws.length = 1 → BindsTo s (PySem.W.fnOf "count_exchanges" "count_exchanges" (defArgs st_p_count_exchanges) (defBody st_p_count_exchanges) (defScope st_p_count_exchanges) .none (.ref KD4) dc4 pm4 an4 cd4 ct4) ⟨us, [("standard" : Str)].zip ws⟩ ((["n", "blocks", "standard"] : List Str).zip (us ++ ws)) := fun s us ws _ h1 h2 => match us, ws, h1, h2 with | [_, _], [_], _, _ => .of_eq rfl
  have m4 := PySem.W.mg_of X G a4
  have F5 := fun_mk (st := st_sizes) l5 c5 k5
  have b5 := F5.binds (ps := ["_law_n", "_law_blocks"]) fun _ _ _ _ _ _ us hl => match us, hl with | [_, _], _ => rfl
  have m5 := PySem.W.mg_of X G a5
  have F6 := fun_mk (st := st_orders) l6 c6 k6
  have b6 := F6.binds (ps := ["_law_many"]) fun _ _ _ _ _ _ us hl => match us, hl with | [_], _ => rfl
  have m6 := PySem.W.mg_of X G a6
  have F7 := fun_mk (st := st_is_standard) l7 c7 k7
  have b7 := F7.binds (ps := ["_law_order"]) fun _ _ _ _ _ _ us hl => match us, hl with | [_], _ => rfl
  have m7 := PySem.W.mg_of X G a7
  have F8 := fun_mk (st := st_all) l8 c8 k8
  have b8 := F8.binds (ps := ["_law_n", "_law_blocks", "_law_only"]) fun _ _ _ _ _ _ us hl => match us, hl with | [_, _, _], _ => rfl
  have m8 := PySem.W.mg_of X G a8
  have F9 := fun_mk (st := st_small_right) l9 c9 k9
  have b9 := F9.binds (ps := ["_law_n", "_law_blocks"]) fun _ _ _ _ _ _ us hl => match us, hl with | [_, _], _ => rfl
  have m9 := PySem.W.mg_of X G a9
  have F10 := fun_mk (st := st_choose) l10 c10 k10
  have b10 := F10.binds (ps := ["_law_total", "_law_some"]) fun _ _ _ _ _ _ us hl => match us, hl with | [_, _], _ => rfl
  have m10 := PySem.W.mg_of X G a10
  have F11 := fun_mk (st := st_count) l11 c11 k11
  have b11 := F11.binds (ps := ["_law_n", "_law_blocks", "_law_only"]) fun _ _ _ _ _ _ us hl => match us, hl with | [_, _, _], _ => rfl
  have m11 := PySem.W.mg_of X G a11
  have F12 := fun_mk (st := st_law) l12 c12 k12
  have b12 := F12.binds (ps := ["_law_script"]) fun _ _ _ _ _ _ us hl => match us, hl with | [_], _ => rfl
  have m12 := PySem.W.mg_of X G a12
  refine ⟨sm0, PySem.W.fnOf "law" "law" (defArgs st_law) (defBody st_law) (defScope st_law) .none kV12 dc12 pm12 an12 cd12 ct12, fun s v => .of_eq rfl, fun base _ _ => ?_⟩
  have C_roll : ∀ R, Cal (jsND K (clT D0) (fun _ => 0) (fun _ => "") R) P w mg base 1 "_law_roll" 2 drawF := fun R => ok_roll hB   F1 m1 b1
  have C_p_binomial : ∀ R, Cal (jsND K (clT D0) (fun _ => 0) (fun _ => "") R) P w mg base 1 "binomial" 2 F_p_binomial := fun R => ok_p_binomial hB hC  F2 m2 b2
  have C_p_factorial : ∀ R, Cal (jsND K (clT D0) (fun _ => 0) (fun _ => "") R) P w mg base 1 "factorial" 1 F_p_factorial := fun R => ok_p_factorial hB hC  F3 m3 b3
  have C_Orders_ways : ∀ R, Mth (jsND K (clT D0) (fun _ => 0) (fun _ => "") R) P w mg base 2 0 "ways" 3 F_Orders_ways := fun R => ok_Orders_ways hB hC (T_0 R) (C_p_binomial R) (C_p_factorial R) Q_Orders_ways
  have C_Orders_count : ∀ R, Mth (jsND K (clT D0) (fun _ => 0) (fun _ => "") R) P w mg base 3 0 "count" 1 F_Orders_count := fun R => ok_Orders_count hB hC (T_0 R) (C_Orders_ways R) Q_Orders_count
  have U_Orders : ∀ {J : Type} (S : Js J), Lk K (clT D0) (fun _ => 0) (fun _ => "") S → Mkr S P w mg base 1 0 "Orders" 3 F_Orders___init__ := fun S h => mk_Orders (S := S) h hB hC (V_0 S h)  Q_Orders___init__ (PySem.W.mg_of X G za0)
  have C_Orders : ∀ R, Mkr (jsND K (clT D0) (fun _ => 0) (fun _ => "") R) P w mg base 1 0 "Orders" 3 F_Orders___init__ := fun R => U_Orders (jsND K (clT D0) (fun _ => 0) (fun _ => "") R) ⟨rfl, rfl, rfl, rfl⟩
  have C_p_count_exchanges : ∀ R, CalK (jsND K (clT D0) (fun _ => 0) (fun _ => "") R) P w mg base 4 "count_exchanges" 2 "standard" (.bl false) F_p_count_exchanges := fun R => ok_p_count_exchanges hB hC (T_0 R) (C_Orders R) (C_Orders_count R) (C_p_binomial R) F4 m4 b4 e4
  have C_sizes : ∀ R, Cal (jsND K (clT D0) (fun _ => 0) (fun _ => "") R) P w mg base 9 "_law_sizes" 2 F_sizes := fun R => ok_sizes hB hC  F5 m5 b5
  have C_orders : ∀ R, Cal (jsND K (clT D0) (fun _ => 0) (fun _ => "") R) P w mg base 1 "_law_orders" 1 F_orders := fun R => ok_orders hB hC  F6 m6 b6
  have C_is_standard : ∀ R, Cal (jsND K (clT D0) (fun _ => 0) (fun _ => "") R) P w mg base 1 "_law_is_standard" 1 F_is_standard := fun R => ok_is_standard hB hC  F7 m7 b7
  have C_all : ∀ R, Cal (jsND K (clT D0) (fun _ => 0) (fun _ => "") R) P w mg base 10 "_law_all" 3 F_all := fun R => ok_all hB hC (C_is_standard R) (C_orders R) (C_sizes R) F8 m8 b8
  have C_small_right : ∀ R, Cal (jsND K (clT D0) (fun _ => 0) (fun _ => "") R) P w mg base 11 "_law_small_right" 2 F_small_right := fun R => ok_small_right hB hC (C_all R) (C_p_count_exchanges R) F9 m9 b9
  have C_choose : ∀ R, Cal (jsND K (clT D0) (fun _ => 0) (fun _ => "") R) P w mg base 1 "_law_choose" 2 F_choose := fun R => ok_choose hB hC  F10 m10 b10
  have C_count : ∀ R, Cal (jsND K (clT D0) (fun _ => 0) (fun _ => "") R) P w mg base 2 "_law_count" 3 F_count := fun R => ok_count hB hC (C_choose R) F11 m11 b11
  exact ok_law hB hC C_count C_roll C_small_right C_p_count_exchanges  F12 ((ok_opened hB F0).imp fun _ _ _ _ h => (open_deal (c := 4201) (by decide)) h) m0 k0 b0
end Lw
open PySem PySem.W PyProof.Rows
set_option maxRecDepth 100000 in
set_option maxHeartbeats 0 in
theorem PySem.Challenge.cw_blockturns_k42_exchanges_counted_holds : PySem.Challenge.rw_blockturns_k42_exchanges_counted.Holds := by
  w_on; o_law; k_head; (case hw => w_witness2)
  k_fill
  refine Mp.walk_ofG (l := PySem.Challenge.rw_blockturns_k42_exchanges_counted) (k := 12) (x := "_law_script") rfl rfl ⟨rfl, by decide, by decide⟩ rfl (fun w h Y => PySem.W.kIn_of Y) ?F
  case F =>
    intro w mg fa h KX G hmg
    refine' Lw.all_mk KX G hmg ?sm0 ?a0 ?l0 ?c0 ?k0 ?a1 ?l1 ?c1 ?k1 ?a2 ?l2 ?c2 ?k2 ?a3 ?l3 ?c3 ?k3 ?a4 ?l4 ?c4 ?k4 ?a5 ?l5 ?c5 ?k5 ?a6 ?l6 ?c6 ?k6 ?a7 ?l7 ?c7 ?k7 ?a8 ?l8 ?c8 ?k8 ?a9 ?l9 ?c9 ?k9 ?a10 ?l10 ?c10 ?k10 ?a11 ?l11 ?c11 ?k11 ?a12 ?l12 ?c12 ?k12 ?za0 ?zb0 ?zc0 ?zd0 ?ze0 ?zm0 ?zk0 ?zn0_0 ?zn0_1 ?wa0 ?wl0 ?wc0 ?wk0 ?wf0 ?wa1 ?wl1 ?wc1 ?wk1 ?wf1 ?wa2 ?wl2 ?wc2 ?wk2 ?wf2 ?kd4 ?n0 ?n1 ?n2 ?n3 ?n4 ?n5 
    (case sm0 => first | k_is | rfl)
    (case a0 => k_is); (case l0 => k_is); (case c0 => k_is); (case k0 => k_is)
    (case a1 => k_is); (case l1 => k_is); (case c1 => k_is); (case k1 => k_is)
    (case a2 => k_is); (case l2 => k_is); (case c2 => k_is); (case k2 => k_is)
    (case a3 => k_is); (case l3 => k_is); (case c3 => k_is); (case k3 => k_is)
    (case a4 => k_is); (case l4 => k_is); (case c4 => k_is); (case k4 => k_is)
    (case a5 => k_is); (case l5 => k_is); (case c5 => k_is); (case k5 => k_is)
    (case a6 => k_is); (case l6 => k_is); (case c6 => k_is); (case k6 => k_is)
    (case a7 => k_is); (case l7 => k_is); (case c7 => k_is); (case k7 => k_is)
    (case a8 => k_is); (case l8 => k_is); (case c8 => k_is); (case k8 => k_is)
    (case a9 => k_is); (case l9 => k_is); (case c9 => k_is); (case k9 => k_is)
    (case a10 => k_is); (case l10 => k_is); (case c10 => k_is); (case k10 => k_is)
    (case a11 => k_is); (case l11 => k_is); (case c11 => k_is); (case k11 => k_is)
    (case a12 => k_is); (case l12 => k_is); (case c12 => k_is); (case k12 => k_is)
    (case za0 => k_is)
    (case zb0 => k_is)
    (case zc0 => k_is)
    (case zd0 => k_is)
    (case ze0 => k_is)
    (case zm0 => k_is)
    (case zk0 => k_is)
    (case zn0_0 => k_is)
    (case zn0_1 => k_is)
    (case wa0 => k_is)
    (case wl0 => k_is)
    (case wc0 => k_is)
    (case wk0 => k_is)
    (case wf0 => k_is)
    (case wa1 => k_is)
    (case wl1 => k_is)
    (case wc1 => k_is)
    (case wk1 => k_is)
    (case wf1 => k_is)
    (case wa2 => k_is)
    (case wl2 => k_is)
    (case wc2 => k_is)
    (case wk2 => k_is)
    (case wf2 => k_is)
    (case kd4 => k_is)
    (case n0 => k_is)
    (case n1 => k_is)
    (case n2 => k_is)
    (case n3 => k_is)
    (case n4 => k_is)
    (case n5 => k_is)

