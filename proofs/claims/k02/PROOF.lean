import PyProof.Rows.All
import Wide.All
import OpenK.AllK
import Wide.FinOn
import PyProof.ReprRoads
import HandS.ForMost
import HandS.Walk
import HandS.Flow
import HandS.Style
import HandS.Wide
import HandS.Zip
import HandS.TupAny
import HandS.TupMul
import HandS.Conv
import HandS.SortInts
import HandS.IsInst
import HandS.Strs
import HandS.ExcOwn
import HandS.EndBits
import HandS.Words
import HandS.Deep
import HandS.NoneIn
import PyProof.ReprLen
import HandS.Star
import HandS.SetFor
import PyProof.Rows.SortShellAny
import HandS.ExcInit
import HandS.ExcField
import HandS.ExcIs
import KE.KExcIs
import PyProof.ZipIter
import KE.GoesMore
import KE.GoesEnum
import PyProof.EqAt
import PyProof.StrLawsRepr
import PySem.Challenge.RW_blockturns_k02_exchanges_judged
set_option Elab.async false
set_option linter.all false
set_option maxRecDepth 100000
set_option maxHeartbeats 8000000
set_option autoImplicit false
set_option synthInstance.maxHeartbeats 2000000
set_option synthInstance.maxSize 4000
/-! Mp0: rules of the hand layer's own kind that it lacks: tuples whose object is known, sum and index of a tuple, t[::-1]. -/
namespace HT
open PySem PySem.Spec PyProof.Rows L2
section
variable {prog : Program} {w : World} {A : Around} {E : Value → Shared → Prop} {s : Shared}
theorem sliceApplied_rev {sl : Addr} {vl vu vs : Value} {n : Nat} {Q : Int × Int × Nat → Shared → Prop} (hs : s.heap.IsSliceOf sl vl vu vs) (pl : IsPart vl none) (pu : IsPart vu none) (ps : IsPart vs (some (-1)))
    (h : Q ((n : Int) - 1, -1, n) s) : wpAny (model prog w) A (Builtin.Slice.sliceApplied (.ref sl) (pure (n : Int))) Q E s := by
  obtain ⟨os, hos, hcs, hds⟩ := id hs
  unfold Builtin.Slice.sliceApplied Builtin.Slice.sliceFields
  refine wpAny_bind (wpAny_bind (wpAny_field hos hds (x := vl) rfl (wpAny_bind (wpAny_field hos hds (x := vu) rfl (wpAny_bind (wpAny_field hos hds (x := vs) rfl (wpAny_pure ?_)))))))
  refine wpAny_bind (slicePart_ ps ?_)
  show wpAny _ _ (if ((-1 : Int) == 0) = true then _ else _) _ _ s
  rw [if_neg (by decide)]
  refine wpAny_bind (slicePart_ pl (wpAny_bind (slicePart_ pu (wpAny_bind (wpAny_pure ?_)))))
  have e : Builtin.Slice.sliceAdjust none none (-1) (n : Int) = ((n : Int) - 1, -1) := rfl
  show wpAny _ _ (match Builtin.Slice.sliceAdjust none none (-1) (n : Int) with | (lo, hi) => pure (lo, (-1 : Int), Builtin.Slice.slicePlaces lo hi (-1))) _ _ s
  rw [e]
  have e2 : Builtin.Slice.slicePlaces ((n : Int) - 1) (-1) (-1) = n := by
    unfold Builtin.Slice.slicePlaces
    have h1 : ¬ ((-1 : Int) > 0) := by omega
    simp only [h1, if_false]
    split <;> simp <;> omega
  show wpAny _ _ (pure ((n : Int) - 1, (-1 : Int), Builtin.Slice.slicePlaces ((n : Int) - 1) (-1) (-1))) _ _ s
  rw [e2]
  exact wpAny_pure h
theorem pick_rev (xs : Array Value) : ((List.range xs.size).filterMap fun (m : Nat) => xs[(((xs.size : Int) - 1) + (m : Int) * (-1)).toNat]?).toArray = xs.toList.reverse.toArray := by
  congr 1
  apply List.ext_getElem?
  intro i
  obtain ⟨l⟩ := xs
  simp only [List.size_toArray, List.getElem?_toArray]
  have key : (List.range l.length).filterMap (fun (m : Nat) => l[(((l.length : Int) - 1) + (m : Int) * (-1)).toNat]?) = l.reverse := by
    have e : (List.range l.length).filterMap (fun (m : Nat) => l[(((l.length : Int) - 1) + (m : Int) * (-1)).toNat]?) = (List.range l.length).filterMap (fun (m : Nat) => l.reverse[m]?) := by
      have hcg : ∀ (q : List Nat) (f g : Nat → Option Value), (∀ m ∈ q, f m = g m) → q.filterMap f = q.filterMap g := by
        intro q f g
        induction q with
        | nil => intro _; rfl
        | cons x q ih =>
          intro h
          rw [List.filterMap_cons, List.filterMap_cons, h x List.mem_cons_self, ih fun m hm => h m (List.mem_cons_of_mem _ hm)]
      refine hcg _ _ _ fun m hm => ?_
      have hm := List.mem_range.mp hm
      rw [List.getElem?_reverse hm]
      congr 1
      omega
    rw [e]
    have h2 : ∀ (r : List Value), (List.range r.length).filterMap (fun (m : Nat) => r[m]?) = r := by
      intro r
      induction r with
      | nil => rfl
      | cons x r ih =>
        rw [List.length_cons, List.range_succ_eq_map, List.filterMap_cons]
        simp only [List.getElem?_cons_zero, List.filterMap_map]
        rw [show ((fun (m : Nat) => (x :: r)[m]?) ∘ Nat.succ) = fun (m : Nat) => r[m]? from rfl, ih]
    have := h2 l.reverse
    rw [List.length_reverse] at this
    exact this
  rw [key]
theorem getItem_tuple_rev {t sl : Addr} {items : Array Value} {vl vu vs : Value} {Q : Value → Shared → Prop} (ht : IsTup s.heap t items) (hs : s.heap.IsSliceOf sl vl vu vs) (pl : IsPart vl none) (pu : IsPart vu none) (ps : IsPart vs (some (-1)))
    (h : Q (.ref s.heap.objs.size) { s with heap := s.heap.push { cls := .type "tuple", data := .seq items.toList.reverse.toArray } })
    (hsz : items.size ≤ sizeLine) : wpAny (model prog w) A (getItem (.ref t) (.ref sl)) Q E s := by
  have htake : sizeOk (.seq items.toList.reverse.toArray) := by
    show items.toList.reverse.toArray.size ≤ sizeLine
    rw [List.size_toArray, List.length_reverse, Array.length_toList]
    exact hsz
  obtain ⟨os, hos, hcs, hds⟩ := id hs
  have hTs : s.TypeIs (.ref sl) "slice" := ⟨os, hos, hcs⟩
  unfold getItem
  try with_reducible refine wpAny_holding ?_
  first | refine wpAny_bind (wpAny_pure ?_) | skip
  refine wpAny_bind (wpAny_sequenceKey ht.typeIs (by decide) ?_)
  refine wpAny_bind (wpAny_callSpecial?_slot (name := Str.ofString "__getitem__") ht.typeIs PyProof.Rows.slot_tuple_getitem
    (wpAny_call_entry PyProof.Rows.slot_tuple_getitem ht.typeIs entry_tuple_getitem ?_ (args_tuple_getitem _ _)))
  show wpAny _ _ (Builtin.Tuple.tupleItemsOf (.ref t) >>= _) _ _ s
  refine wpAny_bind (tupleItemsOf_ ht ?_)
  refine wpAny_bind (wpAny_typeOf hTs ?_)
  rw [if_pos (by decide)]
  refine wpAny_bind (sliceApplied_rev hs pl pu ps ?_)
  have hno : ¬ ((((items.size : Int) - 1) == 0 && (-1 : Int) == 1 && items.size == items.size) = true) := by
    intro q
    rw [Bool.and_eq_true, Bool.and_eq_true] at q
    exact absurd q.1.2 (by decide)
  show wpAny _ _ (if (((items.size : Int) - 1) == 0 && (-1 : Int) == 1 && items.size == items.size) = true then _ else _) _ _ s
  rw [if_neg hno, pick_rev]
  first
    | exact wpAny_bind (m := Builtin.Tuple.tupleExact _) (wpAny_newObj_type (wpAny_pure ⟨_, rfl, wpAny_pure h⟩) htake)
    | exact wpAny_bind (m := Builtin.Tuple.tupleExact _) (wpAny_newObj_type (wpAny_bind (wpAny_pure (wpAny_pure ⟨_, rfl, wpAny_pure h⟩))) htake)
    | exact wpAny_bind (wpAny_bind (m := Builtin.Tuple.tupleExact _) (wpAny_newObj_type (wpAny_pure (wpAny_pure ⟨_, rfl, wpAny_pure h⟩)) htake))
    | exact wpAny_bind (wpAny_bind (m := Builtin.Tuple.tupleExact _) (wpAny_newObj_type (wpAny_pure ⟨_, rfl, wpAny_pure h⟩) htake))
end
end HT
namespace Mp
open PySem PySem.Spec PyProof.Rows L2
/-- a tuple that is read, known to have no dict -/
def SqF (K : PySem.W.Frag) (F : Hp) (a : Addr) (vs : List V) : Prop :=
  (∃ o : Obj, F a = some (.frz o (.tup vs)) ∧ o.dict = none) ∨
    ∃ (o : Obj) (its : Array Value) (n : Nat), K.lookup a = some o ∧ o.cls = .type "tuple" ∧ o.dict = none ∧ o.data = .seq its n ∧ its.size ≤ sizeLine ∧ Vals vs its.toList
theorem SqF.t {K : PySem.W.Frag} {F : Hp} {a : Addr} {vs : List V} (h : SqF K F a vs) : SqT K F a vs := by
  rcases h with ⟨o, h, _⟩ | ⟨o, its, n, h1, h2, _, h3, h4, h5⟩
  · exact .inl (.inr ⟨o, h⟩)
  · exact .inr ⟨o, its, n, h1, h2, h3, h4, h5⟩
theorem SqF.same {K : PySem.W.Frag} {F G : Hp} (e : Same F G) {a : Addr} {vs : List V} (h : SqF K F a vs) : SqF K G a vs := by
  rcases h with ⟨o, h, d⟩ | h
  · exact .inl ⟨o, e _ _ h, d⟩
  · exact .inr h
section
variable {X : Cx} {es : List Expr} {e a : Expr} {t : TA} {pos : Pos}
/-- what a new tuple asks -/
abbrev NewT (H : Hp) (xs : List V) (Q : VK) : Prop := ∀ (p : Addr) (o : Obj), H p = none → o.dict = none → Q (.ref p) (upd H p (.frz o (.tup xs)))
def tTupF (t : TA) : TE := fun σ H Q => t σ H fun xs H1 => xs.length ≤ sizeLine ∧ NewT H1 xs Q
theorem pe_tupF {x1 : Nat} (h : PA X es t) : PE X (.Tuple es x1 pos) (tTupF t) := by
  refine ⟨fun pins s σ H Q I hq => ?_⟩
  refine wpAny_Tuple_spliced (thn (h.run pos pins s σ H _ I hq) fun us s1 ⟨xs, H1, I1, r, z, q⟩ => ⟨by rw [← r.length]; exact z, ?_⟩)
  have hf : H1 s1.heap.objs.size = none := I1.hok.fresh (Nat.le_refl _)
  exact ⟨.ref s1.heap.objs.size, _, I1.laid (t' := s1.toks) (o := .frz { cls := .type "tuple", data := .seq us.toArray } (.tup xs)) (fun b u e => Heap.get?_push_of_some _ e) (Nat.le_refl _) ⟨Heap.get?_push_size _ rfl, z, us, r, ⟨_, Heap.get?_push_size _ rfl, rfl, _, rfl⟩⟩, rfl, q _ _ hf rfl⟩
theorem call_tupleF : CallR X (.type "tuple") (fun xs H Q => ∃ p ys, xs = [.ref p] ∧ ((SqL X.K H p ys ∧ NewT H ys Q) ∨ (SqT X.K H p ys ∧ Q (.ref p) H))) := by
  intro pins s σ H xs us Q I r h
  obtain ⟨p, ys, rfl, h⟩ := h
  obtain ⟨u, rfl, rx⟩ := vals1 r
  cases rx
  rcases h with ⟨hq, q⟩ | ⟨hq, q⟩
  · obtain ⟨its, r', pl, hz⟩ := I.list hq
    have hlen := r'.length
    refine call_tuple_list pl.isList (fun h' kp => ?_) (by simp only [List.size_toArray] <;> omega)
    have I1 : Inv X pins σ H { s with heap := h' } := I.kept (t' := s.toks) kp
    have I2 : Inv X pins σ (upd H h'.objs.size (.frz { cls := .type "tuple", data := .seq its.toArray } (.tup ys))) { s with heap := h'.push { cls := .type "tuple", data := .seq its.toArray } } :=
      I1.laid (t' := s.toks) (fun b o e => Heap.get?_push_of_some _ e) (Nat.le_refl _) ⟨Heap.get?_push_size _ rfl, hz, its, r', IsTup.new _ _⟩
    exact ⟨.ref h'.objs.size, _, I2, rfl, q _ _ (I1.hok.fresh (Nat.le_refl _)) rfl⟩
  · obtain ⟨its, r', pl, hz⟩ := I.tuple hq
    exact call_tuple_same pl ⟨.ref p, H, I, rfl, q⟩
def rCatF (K : PySem.W.Frag) : R2 := fun x y H Q => ∃ a b xs ys, x = .ref a ∧ y = .ref b ∧ SqT K H a xs ∧ SqT K H b ys ∧ xs.length + ys.length ≤ sizeLine ∧
  (xs = [] → Q (.ref b) H) ∧ (xs ≠ [] → ys = [] → Q (.ref a) H) ∧ (xs ≠ [] → ys ≠ [] → NewT H (xs ++ ys) Q)
theorem op_catF : OpR X (binaryOp .Add) (rCatF X.K) := by
  intro pins s σ H x y v u Q I rx ry h
  obtain ⟨a, b, xs, ys, rfl, rfl, ha, hb, hz, q0, q1, q2⟩ := h
  cases rx
  cases ry
  obtain ⟨its, r1, p1, _⟩ := I.tuple ha
  obtain ⟨its2, r2, p2, _⟩ := I.tuple hb
  by_cases hx : xs = []
  · subst hx
    cases r1
    exact cat_tup0 p1 p2 ⟨.ref b, H, I, rfl, q0 rfl⟩
  · refine HT.cat_tup p1 p2 (fun z => hx (r1.nil_iff.mp z)) (fun z => ⟨.ref a, H, I, rfl, q1 hx (r2.nil_iff.mp z)⟩) (fun z => ?_) (by rw [← r1.length, ← r2.length]; exact hz)
    refine ⟨.ref s.heap.objs.size, _, I.laid (t' := s.toks) (o := .frz { cls := .type "tuple", data := .seq (its ++ its2).toArray } (.tup (xs ++ ys))) (fun b ob q => Heap.get?_push_of_some _ q) (Nat.le_refl _) ?_, rfl, q2 hx (fun w => z (r2.nil_iff.mpr w)) _ _ (I.hok.fresh (Nat.le_refl _)) rfl⟩
    exact ⟨Heap.get?_push_size _ rfl, by rw [List.length_append]; exact hz, _, r1.append r2, IsTup.new _ _⟩
def rSlF (K : PySem.W.Frag) : V → Option Int → Option Int → Hp → VK → Prop := fun x lo hi H Q => ∃ a xs, x = .ref a ∧ SqT K H a xs ∧
  (HT.sIx xs.length 0 lo = 0 ∧ HT.sIx xs.length xs.length hi = xs.length → Q (.ref a) H) ∧ (¬ (HT.sIx xs.length 0 lo = 0 ∧ HT.sIx xs.length xs.length hi = xs.length) → NewT H (cutV xs lo hi) Q)
theorem sl_tupF : SlR X (rSlF X.K) := by
  intro pins s σ H x v vl vu lo hi sl Q I rx hs pl pu h
  obtain ⟨a, xs, rfl, hx, q1, q2⟩ := h
  cases rx
  obtain ⟨its, r, ht, hz⟩ := I.tuple hx
  have hlen : its.toArray.size = xs.length := by rw [List.size_toArray]; exact r.length.symm
  refine ⟨"tuple", _, PyProof.Rows.slot_tuple_getitem.lookup, ht.typeIs, ?_⟩
  by_cases hw : HT.sIx xs.length 0 lo = 0 ∧ HT.sIx xs.length xs.length hi = xs.length
  · exact getItem_tuple_whole ht hs pl pu (by rw [hlen]; exact hw) ⟨.ref a, H, I, rfl, q1 hw⟩
  · refine HT.getItem_tuple_cut ht hs pl pu (by rw [hlen]; exact hw) ?_ (by rw [hlen]; exact hz)
    rw [hlen]
    refine ⟨.ref s.heap.objs.size, _, I.laid (t' := s.toks) (o := .frz { cls := .type "tuple", data := .seq ((its.drop (HT.sIx xs.length 0 lo)).take (HT.sIx xs.length xs.length hi - HT.sIx xs.length 0 lo)).toArray } (.tup (cutV xs lo hi))) (fun b ob q => Heap.get?_push_of_some _ q) (Nat.le_refl _) ?_, rfl, q2 hw _ _ (I.hok.fresh (Nat.le_refl _)) rfl⟩
    exact ⟨Heap.get?_push_size _ rfl, Nat.le_trans (cutV_length xs lo hi) hz, _, (r.drop (HT.sIx xs.length 0 lo)).take (HT.sIx xs.length xs.length hi - HT.sIx xs.length 0 lo), IsTup.new _ _⟩
def tTupRgF (te : L2.St → Hp → (Int → Int → Hp → Prop) → Prop) : TE := fun σ H Q => te σ H fun a b H1 => RgOk a b ∧ NewT H1 (rgV a b) Q
theorem pe_tupRgF {p pos : Pos} {te : L2.St → Hp → (Int → Int → Hp → Prop) → Prop} (hc : X.calm = true) (hg : Gl X "tuple") (hm : X.mg "tuple" = none) (he : PRg X e te) (na : starEach [e] X.env = (false, eval e X.env) :: starEach [] X.env) : PE X (.Call (.Name "tuple" p) [e] [] pos) (tTupRgF te) := by
  refine ⟨fun pins s σ H Q I h => ?_⟩
  refine Call_ (ld_blt I hg hm boot_tuple (PyProof.Rows.callWith_type1 (args_cons (thn (he pins s σ H _ I h) fun x s1 ⟨r, a, b, t, u, v, H1, ex, hr, I1, ok, q⟩ => args_nil ?_) na) na))
  subst ex
  obtain ⟨b1, b2, b3, b4, b5⟩ := ok
  refine call_tuple_range (n := (b - a).toNat) (I1.ok.hd hc) hr (small_one b1 b2 b3 b4) (rangeSize_nat a b) b5 fun h' tk acc hk hi => ?_
  have I2 : Inv X pins σ H1 { s1 with heap := h', toks := tk } := I1.kept hk
  refine ⟨.ref h'.objs.size, _, I2.laid (t' := tk) (o := .frz { cls := .type "tuple", data := .seq acc } (.tup (rgV a b))) (fun c o e => Heap.get?_push_of_some _ e) (Nat.le_refl _) ⟨Heap.get?_push_size _ rfl, ?_, acc.toList, vals_rg hi, ?_⟩, rfl, q _ _ (I2.hok.fresh (Nat.le_refl _)) rfl⟩
  · rw [rgV_length, sizeLine_eq]; omega
  · rw [Array.toArray_toList]; exact IsTup.new _ _
/-- t[::-1] of a tuple -/
def tRevT (K : PySem.W.Frag) (te : TE) : TE := fun σ H Q => te σ H fun x H1 => ∃ a xs, x = .ref a ∧ SqT K H1 a xs ∧ NewT H1 xs.reverse Q
theorem pe_revT {e : Expr} {te : TE} {k : Nat} {p1 p2 p3 pos : Pos} (he : PE X e te) : PE X (.Subscript e (.Slice none none (some (.UnaryOp .USub (.Constant (.int 1) k p1) p2)) p3) pos) (tRevT X.K te) := by
  refine ⟨fun pins s σ H Q I h => ?_⟩
  refine Subscript_ (thn (he.run pins s σ H _ I h) fun v s1 ⟨x, H1, I1, r1, q1⟩ => ?_)
  obtain ⟨a, xs, ex, hx, q⟩ := q1
  subst ex
  cases r1
  have hst : PO X (some (.UnaryOp .USub (.Constant (.int 1) k p1) p2)) (tPart (tUn (rU fun i => .int (-i)) (tC (.int 1)))) := po_some (pe_un un_neg pe_int)
  refine wpAny_Slice (thn (po_none.run pins s1 σ H1 (fun o H2 => o = none ∧ H2 = H1) I1 ⟨rfl, rfl⟩) fun vl s2 ⟨l, H2, I2, pl, el, e2⟩ => ?_)
  subst el e2
  refine thn (po_none.run pins s2 σ H2 (fun o H3 => o = none ∧ H3 = H2) I2 ⟨rfl, rfl⟩) fun vu s3 ⟨u, H3, I3, pu, eu, e3⟩ => ?_
  subst eu e3
  refine thn (hst.run pins s3 σ H3 (fun o H4 => o = some (-1) ∧ H4 = H3) I3 ⟨1, rfl, -1, rfl, rfl, rfl⟩) fun vs s4 ⟨o, H4, I4, ps, eo, e4⟩ => ?_
  subst eo e4
  have I5 : Inv X pins σ H4 { s4 with heap := s4.heap.push { cls := .type "slice", data := .fields #[vl, vu, vs] } } := I4.kept (t' := s4.toks) fun b ob q => Heap.get?_push_of_some _ q
  obtain ⟨its, r, ht, hz⟩ := I5.tuple hx
  have hlen := r.length
  show wpAny (model X.prog X.w) X.A (subscriptTail e (.Slice none none (some (.UnaryOp .USub (.Constant (.int 1) k p1) p2)) p3) (.ref a) (.ref s4.heap.objs.size)) (EP X pins σ Q) X.xe { s4 with heap := s4.heap.push { cls := .type "slice", data := .fields #[vl, vu, vs] } }
  refine tail_any (ops := [.ref a, .ref s4.heap.objs.size]) ht.typeIs (PyProof.Rows.slot_tuple_getitem.lookup) ?_ (by with_unfolding_all rfl)
  refine HT.getItem_tuple_rev ht (Heap.IsSliceOf.new _ vl vu vs) pl pu ps ?_ (by rw [List.size_toArray]; omega)
  refine ⟨.ref _, _, I5.laid (t' := s4.toks) (o := .frz { cls := .type "tuple", data := .seq its.reverse.toArray } (.tup xs.reverse)) (fun b ob q => Heap.get?_push_of_some _ q) (Nat.le_refl _) ?_, rfl, q _ _ (I5.hok.fresh (Nat.le_refl _)) rfl⟩
  exact ⟨Heap.get?_push_size _ rfl, by rw [List.length_reverse]; exact hz, its.reverse, r.reverse, IsTup.new _ _⟩

/-! ### sum of a tuple -/
theorem preSum_take (ns : List Int) : ∀ n, preSum (fun i => ns.getD i 0) n = (ns.take n).sum
  | 0 => by simp [preSum]
  | n + 1 => by
    have ih := preSum_take ns n
    show preSum (fun i => ns.getD i 0) n + ns.getD n 0 = _
    rw [ih]
    by_cases h : n < ns.length
    · rw [List.take_add_one, List.getElem?_eq_getElem h, List.sum_append]
      simp [List.getD_eq_getElem?_getD, List.getElem?_eq_getElem h]
    · rw [List.take_of_length_le (by omega), List.take_of_length_le (by omega)]
      simp [List.getD_eq_getElem?_getD, List.getElem?_eq_none (by omega : ns.length ≤ n)]
def rSumT (K : PySem.W.Frag) : List V → Hp → VK → Prop := fun vs H Q => ∃ (a : Addr) (ns : List Int), vs = [V.ref a] ∧ SqT K H a (ns.map V.int) ∧ Q (.int ns.sum) H
theorem cr_sumT (hc : X.calm = true) : CallR X (.builtin "sum") (rSumT X.K) := by
  intro pins s σ H vs us Q I r h
  obtain ⟨a, ns, rfl, hs, q⟩ := h
  obtain ⟨its, rv, ht, hz⟩ := I.tuple hs
  rw [Vals.ref1 r]
  have hlen : its.length = ns.length := by have := rv.length; rw [List.length_map] at this; exact this.symm
  have hT : s.heap.IsTuple a its.toArray := ht
  refine call_sum_walkG (wpAny_pyIter_tuple hT ?_)
  have hlt : a < s.heap.objs.size := by
    obtain ⟨o, ho, _⟩ := ht
    exact Heap.lt_size ho
  refine ⟨_, _, _, _, _, _, fun i => ns.getD i 0, rfl, Walks.tuple (A := X.A.in1) (I.ok.hd hc) _ a (Nat.ne_of_lt hlt) its.toArray, ⟨⟨_, Heap.get?_push_size _ rfl, rfl, rfl⟩, ?_⟩, ?_, ?_, fun h' tk t' hk => ?_⟩
  · obtain ⟨o, ho, hc2⟩ := ht
    exact ⟨o, Heap.get?_push_of_some _ ho, hc2⟩
  · intro b hb
    show b < (s.heap.push _).objs.size
    rw [Heap.size_push]
    rcases List.mem_cons.mp hb with e | hb
    · subst e; exact Nat.lt_succ_self _
    · rcases List.mem_cons.mp hb with e | hb
      · subst e; exact Nat.lt_succ_of_lt hlt
      · cases hb
  · intro i v hv
    have hi : i < ns.length := by
      have := (Array.getElem?_eq_some_iff.mp hv).1
      simpa [hlen] using this
    obtain ⟨u, hu, t, hu2⟩ := rv.get (i := i) (x := .int ns[i]) (by simp [hi])
    have e : its[i]? = some v := by simpa using hv
    rw [hu] at e
    cases e
    exact ⟨t, by rw [hu2]; simp [List.getD_eq_getElem?_getD, hi]⟩
  · have e : preSum (fun i => ns.getD i 0) its.toArray.size = ns.sum := by
      rw [preSum_take, List.size_toArray, hlen, List.take_of_length_le (Nat.le_refl _)]
    rw [e]
    exact ⟨.int _, H, I.kept fun b o eo => hk b o (fun hm => by
      rcases List.mem_cons.mp hm with e1 | hm
      · exact absurd (e1 ▸ Heap.lt_size eo) (Nat.lt_irrefl _)
      · cases hm) (Heap.get?_push_of_some _ eo), ⟨_, rfl⟩, q⟩

/-! ### t.index(x) of flat things -/
def rIndexT (K : PySem.W.Frag) : V → List V → Hp → VK → Prop := fun x xs H Q => ∃ (a : Addr) (ys : List V) (y : V) (j : Nat) (z : V), x = V.ref a ∧ xs = [y] ∧ SqT K H a ys ∧ flatV y = true ∧ ys.all flatV = true ∧ ys[j]? = some z ∧ eqV z y = true ∧
  (∀ (m : Nat) (z' : V), m < j → ys[m]? = some z' → eqV z' y = false) ∧ Q (.int (j : Nat)) H
theorem mt_indexT : MtR X "tuple.index" (rIndexT X.K) := by
  intro pins s σ H x xs v us Q I rx rxs h
  obtain ⟨a, ys, y, j, z, rfl, rfl, hs, fy, fys, hz, hzj, hno, q⟩ := h
  cases rx
  cases rxs with
  | cons ry rt =>
    rename_i uy ut
    cases rt
    obtain ⟨its, rv, pl, hlen⟩ := I.tuple hs
    obtain ⟨⟨cls, dd, dt, sl⟩, ho, hc, n, hd⟩ := pl
    simp only at hc hd
    subst hc hd
    obtain ⟨u, hu, ru⟩ := rv.get hz
    obtain ⟨hjl, hje⟩ := List.getElem?_eq_some_iff.mp hu
    have hj : j < its.toArray.size := by simpa using hjl
    have hvl := rv.length
    refine call_meets PySem.F.slot_tuple_index ⟨_, ho, rfl⟩ PySem.F.entry_tuple_index (PySem.F.args_tuple_index_2 _ _) (_root_.TI.tuple_indexAt a its.toArray n dd sl uy (eqU y) j hj ?_ ?_)
      ⟨ho, fun u' hu' => mem_eqAt ry fy rv fys u' (by simpa using hu'), ⟨.int (j : Nat), H, I.tok _, ⟨_, rfl⟩, q⟩⟩
    · have e1 : its.toArray[j] = u := by simpa using hje
      rw [e1, eqU_of ru (flat_at fys hz)]
      exact hzj
    · intro m hm hmj
      have hml : m < its.length := by simpa using hm
      have hmy : m < ys.length := by omega
      have hy' : ys[m]? = some ys[m] := List.getElem?_eq_getElem hmy
      obtain ⟨u2, hu2, ru2⟩ := rv.get hy'
      obtain ⟨_, hme⟩ := List.getElem?_eq_some_iff.mp hu2
      have e1 : its.toArray[m] = u2 := by simpa using hme
      rw [e1, eqU_of ru2 (flat_at fys hy')]
      exact hno m _ hmj hy'

/-- t.m(e, ..) of a tuple -/
def tBMT (K : PySem.W.Frag) (r : V → List V → Hp → VK → Prop) (to : TE) (t : TA) : TE := fun σ H Q => to σ H fun x H1 => (∃ a vs, x = .ref a ∧ SqF K H1 a vs) ∧ t σ H1 fun xs H2 => r x xs H2 Q
theorem pe_bmT {o : Expr} {to : TE} {name : Str} {apos cpos : Pos} {id : String} {r : V → List V → Hp → VK → Prop} (slot : Slot "tuple" name id) (hty : typeOf (.builtin id) = pure (.type "method_descriptor")) (hm : MtR X id r) (ho : PE X o to) (ha : PA X (e :: es) t)
    (hbase : attributeBase o name X.env (eval o X.env) = eval o X.env)
    (hfew : ((backTo cpos (starEach (e :: es) X.env)).all (fun x => !x.1) && (backToKw cpos (keywordEach [] X.env)).all (fun x => x.1.isSome)
      && decide ((e :: es).length + ([] : List Keyword).length + (if ([] : List Keyword).isEmpty then 0 else 1) < 30)) = true)
    (hline : (apos.endLine == cpos.line) = true) (hs : starEach (e :: es) X.env = (false, eval e X.env) :: starEach es X.env) (hplain : (backTo cpos (starEach es X.env)).any (·.1) = false) :
    PE X (.Call (.Attribute o name apos) (e :: es) [] cpos) (tBMT X.K r to t) := by
  refine ⟨fun pins s σ H Q I h => ?_⟩
  refine wpAny_Call_method_late hbase hfew hline rfl (thn (ho.run pins s σ H _ I h) fun v s1 ⟨x, H1, I1, r1, ty, q1⟩ => ?_)
  have tyis : s1.TypeIs v "tuple" ∧ ∀ a, v = .ref a → ∃ ob, s1.heap.get? a = some ob ∧ ob.dict = none := by
    obtain ⟨a, vs, rfl, hq⟩ := ty
    cases r1
    obtain ⟨its, _, pl, _⟩ := I1.tuple hq.t
    refine ⟨pl.typeIs, fun b e => ?_⟩
    cases e
    rcases hq with ⟨ob, h1, h2⟩ | ⟨ob, its, n, h1, _, h2, _⟩
    · exact ⟨ob, (I1.hok _ _ h1).1, h2⟩
    · exact ⟨ob, I1.kIn _ _ h1, h2⟩
  obtain ⟨h1, h2⟩ := tyis
  refine ⟨"tuple", id, PySem.F.plainAttrs_tuple, slot, hty, h1, h2, ?_⟩
  have hA := ha.run cpos pins s1 σ H1 _ I1 q1
  rw [hs] at hA ⊢
  refine Calls.callWith_builtin (by show (false || (backTo cpos (starEach es X.env)).any (·.1)) = false; rw [hplain] <;> rfl) (Calls.evalArgs_plain ?_)
  exact thn hA fun us s2 ⟨vs, H2, I2, r2, q2⟩ => hm pins s2 σ H2 x vs v us Q I2 r1 r2 q2
end
end Mp

/-! Mp: a small value language over the hand layer. Data, how it lies in the abstract heap, the ghost state of a def's run. -/
namespace Mp
open PySem PySem.Spec L2

/-- data: what a value is, without addresses -/
inductive D where
  | non | bl (b : Bool) | int (i : Int) | str (x : Str) | tup (xs : List D) | lst (xs : List D) | dct (kvs : List (Key × D)) | jar | obj (a : Addr) | ins (c : Nat) (fs : List (Str × D))
  deriving Inhabited

/-- the random source of a law (J its state), and the classes -/
structure Js (J : Type) where
  K : PySem.W.Frag
  R : V
  cl : Nat → Addr
  xc : Nat → Addr
  xf : Nat → Str
  rep : J → Hp → (Addr → Prop) → Hp → Prop
  frame : ∀ {j : J} {F F' : Hp} {A : Addr → Prop} {H H' : Hp}, rep j F A H → Same F F' → (∀ b, A b → H' b = H b) → rep j F' A H'
  dom : ∀ {j : J} {F : Hp} {A : Addr → Prop} {H : Hp} {b : Addr}, rep j F A H → A b → H b ≠ none

variable {J : Type}
mutual
inductive Rp (S : Js J) (F : Hp) : D → V → Prop
  | non : Rp S F .non .non
  | bl (b : Bool) : Rp S F (.bl b) (.bl b)
  | int (i : Int) : Rp S F (.int i) (.int i)
  | str (x : Str) : Rp S F (.str x) (.str x)
  | tup {a : Addr} {ds : List D} {vs : List V} : SqF S.K F a vs → RpL S F ds vs → Rp S F (.tup ds) (.ref a)
  | lst {a : Addr} {ds : List D} {vs : List V} : F a = some (.lst vs) → RpL S F ds vs → Rp S F (.lst ds) (.ref a)
  | dct {a : Addr} {kds : List (Key × D)} {kvs : List (Key × V)} : F a = some (.dK kvs) → kds.map Prod.fst = kvs.map Prod.fst → RpL S F (kds.map Prod.snd) (kvs.map Prod.snd) → Rp S F (.dct kds) (.ref a)
  | jar : Rp S F .jar S.R
  | obj (a : Addr) : Rp S F (.obj a) (.ref a)
  | ins {a dx : Addr} {c : Nat} {kds : List (Str × D)} {kvs : List (Str × V)} : F a = some (.ins (S.cl c) dx kvs) → kds.map Prod.fst = kvs.map Prod.fst → RpL S F (kds.map Prod.snd) (kvs.map Prod.snd) → Rp S F (.ins c kds) (.ref a)
inductive RpL (S : Js J) (F : Hp) : List D → List V → Prop
  | nil : RpL S F [] []
  | cons {d : D} {ds : List D} {v : V} {vs : List V} : Rp S F d v → RpL S F ds vs → RpL S F (d :: ds) (v :: vs)
end

theorem RpL.length {S : Js J} {F : Hp} : ∀ {ds : List D} {vs : List V}, RpL S F ds vs → ds.length = vs.length
  | _, _, .nil => rfl
  | _, _, .cons _ t => by rw [List.length_cons, List.length_cons, t.length]

theorem sqL_same {K : PySem.W.Frag} {F G : Hp} (e : Same F G) {a : Addr} {xs : List V} (h : SqL K F a xs) : SqL K G a xs := e.seq h
theorem sqT_same {K : PySem.W.Frag} {F G : Hp} (e : Same F G) {a : Addr} {xs : List V} (h : SqT K F a xs) : SqT K G a xs := by
  rcases h with (h | ⟨o, h⟩) | h
  · exact .inl (.inl (e _ _ h))
  · exact .inl (.inr ⟨o, e _ _ h⟩)
  · exact .inr h

mutual
theorem Rp.mono {S : Js J} {F G : Hp} (e : Same F G) : ∀ {d : D} {v : V}, Rp S F d v → Rp S G d v
  | _, _, .non => .non
  | _, _, .bl b => .bl b
  | _, _, .int i => .int i
  | _, _, .str x => .str x
  | _, _, .tup h t => .tup (h.same e) (RpL.mono e t)
  | _, _, .lst h t => .lst (e _ _ h) (RpL.mono e t)
  | _, _, .dct h l t => .dct (e _ _ h) l (RpL.mono e t)
  | _, _, .jar => .jar
  | _, _, .obj a => .obj a
  | _, _, .ins h l t => .ins (e _ _ h) l (RpL.mono e t)
theorem RpL.mono {S : Js J} {F G : Hp} (e : Same F G) : ∀ {ds : List D} {vs : List V}, RpL S F ds vs → RpL S G ds vs
  | _, _, .nil => .nil
  | _, _, .cons h t => .cons (Rp.mono e h) (RpL.mono e t)
end

section
variable {S : Js J} {F : Hp}
theorem RpL.get : ∀ {ds : List D} {vs : List V} {i : Nat} {d : D}, RpL S F ds vs → ds[i]? = some d → ∃ v, vs[i]? = some v ∧ Rp S F d v
  | _, _, _, _, .nil, e => by simp at e
  | _, _, 0, _, .cons r _, e => by simp at e; subst e; exact ⟨_, rfl, r⟩
  | _, _, i + 1, d, .cons _ t, e => by
    obtain ⟨u, h1, h2⟩ := RpL.get (i := i) (d := d) t (by simpa using e)
    exact ⟨u, by simpa using h1, h2⟩
theorem RpL.get' : ∀ {ds : List D} {vs : List V} {i : Nat} {v : V}, RpL S F ds vs → vs[i]? = some v → ∃ d, ds[i]? = some d ∧ Rp S F d v
  | _, _, _, _, .nil, e => by simp at e
  | _, _, 0, _, .cons r _, e => by simp at e; subst e; exact ⟨_, rfl, r⟩
  | _, _, i + 1, d, .cons _ t, e => by
    obtain ⟨u, h1, h2⟩ := RpL.get' (i := i) (v := d) t (by simpa using e)
    exact ⟨u, by simpa using h1, h2⟩
theorem RpL.append : ∀ {ds es : List D} {vs ws : List V}, RpL S F ds vs → RpL S F es ws → RpL S F (ds ++ es) (vs ++ ws)
  | _, _, _, _, .nil, h => h
  | _, _, _, _, .cons r t, h => .cons r (RpL.append t h)
theorem RpL.take : ∀ (n : Nat) {ds : List D} {vs : List V}, RpL S F ds vs → RpL S F (ds.take n) (vs.take n)
  | 0, _, _, _ => .nil
  | _ + 1, _, _, .nil => .nil
  | n + 1, _, _, .cons r t => .cons r (RpL.take n t)
theorem RpL.drop : ∀ (n : Nat) {ds : List D} {vs : List V}, RpL S F ds vs → RpL S F (ds.drop n) (vs.drop n)
  | 0, _, _, h => h
  | _ + 1, _, _, .nil => .nil
  | n + 1, _, _, .cons r t => RpL.drop n t
theorem RpL.reverse {ds : List D} {vs : List V} (h : RpL S F ds vs) : RpL S F ds.reverse vs.reverse := by
  induction ds generalizing vs with
  | nil => cases h; exact .nil
  | cons d ds ih =>
    cases h with
    | cons r t =>
      rw [List.reverse_cons, List.reverse_cons]
      exact (ih t).append (.cons r .nil)
theorem RpL.set {d : D} {v : V} (r : Rp S F d v) : ∀ (n : Nat) {ds : List D} {vs : List V}, RpL S F ds vs → RpL S F (ds.set n d) (vs.set n v)
  | _, _, _, .nil => .nil
  | 0, _, _, .cons _ t => .cons r t
  | n + 1, _, _, .cons q t => .cons q (RpL.set r n t)
theorem RpL.eraseIdx : ∀ (n : Nat) {ds : List D} {vs : List V}, RpL S F ds vs → RpL S F (ds.eraseIdx n) (vs.eraseIdx n)
  | _, _, _, .nil => .nil
  | 0, _, _, .cons _ t => t
  | n + 1, _, _, .cons q t => .cons q (RpL.eraseIdx n t)
theorem RpL.dropLast {ds : List D} {vs : List V} (h : RpL S F ds vs) : RpL S F ds.dropLast vs.dropLast := by
  rw [List.dropLast_eq_take, List.dropLast_eq_take, h.length]
  exact h.take _
theorem RpL.ints : ∀ (ns : List Int), RpL S F (ns.map D.int) (ns.map V.int)
  | [] => .nil
  | n :: ns => .cons (.int n) (RpL.ints ns)
theorem RpL.of_ints : ∀ {ns : List Int} {vs : List V}, RpL S F (ns.map D.int) vs → vs = ns.map V.int
  | [], _, h => by cases h; rfl
  | n :: ns, _, h => by
    cases h with
    | cons r t => cases r; rw [RpL.of_ints t]; rfl
theorem RpL.of_bls : ∀ {ns : List Bool} {vs : List V}, RpL S F (ns.map D.bl) vs → vs = ns.map V.bl
  | [], _, h => by cases h; rfl
  | n :: ns, _, h => by
    cases h with
    | cons r t => cases r; rw [RpL.of_bls t]; rfl
theorem RpL.of_strs : ∀ {ns : List Str} {vs : List V}, RpL S F (ns.map D.str) vs → vs = ns.map V.str
  | [], _, h => by cases h; rfl
  | n :: ns, _, h => by
    cases h with
    | cons r t => cases r; rw [RpL.of_strs t]; rfl
theorem RpL.strs : ∀ (ns : List Str), RpL S F (ns.map D.str) (ns.map V.str)
  | [] => .nil
  | n :: ns => .cons (.str n) (RpL.strs ns)
end

/-- a source that does not look at what is frozen -/
class PureJ (S : Js J) : Prop where
  pu : ∀ {j : J} {F F' : Hp} {A : Addr → Prop} {H : Hp}, S.rep j F A H → S.rep j F' A H
/-! ### the ghost state -/
/-- F: what is frozen; G: what is seen (F, and what this def owns); A: where the random source lies -/
structure Gh where
  F : Hp
  G : Hp
  A : Addr → Prop
/-- the entry of a def -/
structure Bs where
  F0 : Hp
  H0 : Hp
  A0 : Addr → Prop
structure OkB (S : Js J) (B : Bs) (g : Gh) (H : Hp) (j : J) : Prop where
  fg : Same g.F g.G
  gh : Same g.G H
  ga : ∀ b o, g.G b = some o → ¬ g.A b
  jr : S.rep j g.F g.A H
  f0 : Same B.F0 g.F
  g0 : ∀ b o, g.G b = some o → B.F0 b = some o ∨ B.H0 b = none
  a0 : ∀ b, g.A b → B.A0 b ∨ B.H0 b = none
  h0 : ∀ b o, B.H0 b = some o → ¬ B.A0 b → H b = some o
  h1 : ∀ b, H b = none → B.H0 b = none
  sm : ∃ o u, H sysModules = some (.frz o u)

/-- a mutable thing at a that a slot alone holds -/
def Own (S : Js J) (g : Gh) (d : D) (a : Addr) : Prop :=
  g.F a = none ∧ ((∃ ds vs, d = .lst ds ∧ g.G a = some (.lst vs) ∧ RpL S g.F ds vs) ∨
    (∃ kds kvs, d = .dct kds ∧ g.G a = some (.dK kvs) ∧ kds.map Prod.fst = kvs.map Prod.fst ∧ RpL S g.F (kds.map Prod.snd) (kvs.map Prod.snd)))
abbrev Sd := List (Option D)
structure Slots (S : Js J) (g : Gh) (M : Nat → Bool) (r : St) (m : Sd) : Prop where
  len : r.length = m.length
  fr : ∀ i d, m[i]? = some (some d) → M i = false → ∃ v, r[i]? = some (some v) ∧ Rp S g.F d v
  ow : ∀ i d, m[i]? = some (some d) → M i = true → ∃ a, r[i]? = some (some (.ref a)) ∧ Own S g d a
  dj : ∀ i j a d e, m[i]? = some (some d) → m[j]? = some (some e) → M i = true → M j = true → r[i]? = some (some (.ref a)) → r[j]? = some (some (.ref a)) → i = j
structure Ok (S : Js J) (B : Bs) (g : Gh) (M : Nat → Bool) (r : St) (H : Hp) (m : Sd) (j : J) : Prop where
  b : OkB S B g H j
  s : Slots S g M r m

structure Le (p q : Gh) : Prop where
  f : Same p.F q.F
  g : Same p.G q.G
  n : ∀ b o, q.F b = some o → p.F b = some o ∨ p.G b = none
theorem Le.refl (g : Gh) : Le g g := ⟨Same.refl _, Same.refl _, fun _ _ e => .inl e⟩
theorem Le.trans {g1 g2 g3 : Gh} (x : Le g1 g2) (y : Le g2 g3) : Le g1 g3 :=
  ⟨x.f.trans y.f, x.g.trans y.g, fun b o e => by
    rcases y.n b o e with h | h
    · exact x.n b o h
    · right
      exact x.g.free h⟩

inductive Cl | fresh | clean | mix
  deriving DecidableEq
/-- what is known of a value, by its class; g the ghost ahead of its evaluation, g' behind -/
def Val (S : Js J) (g g' : Gh) : Cl → D → V → Prop
  | .fresh, d, v => ∃ a, v = .ref a ∧ g.G a = none ∧ Own S g' d a
  | .clean, d, v => Rp S g'.F d v
  | .mix, d, v => Rp S g'.G d v

section
variable {S : Js J} {B : Bs} {g g' g'' : Gh} {H H' : Hp} {j j' : J} {d : D} {v : V} {a : Addr} {M : Nat → Bool} {r : St} {m : Sd}
theorem Own.rp (h : Own S g d a) (fg : Same g.F g.G) : Rp S g.G d (.ref a) := by
  obtain ⟨_, ⟨ds, vs, rfl, e, t⟩ | ⟨kds, kvs, rfl, e, l, t⟩⟩ := h
  · exact .lst e (t.mono fg)
  · exact .dct e l (t.mono fg)
theorem Own.in_g (h : Own S g d a) : ∃ o, g.G a = some o := by
  obtain ⟨_, ⟨ds, vs, rfl, e, t⟩ | ⟨kds, kvs, rfl, e, l, t⟩⟩ := h
  · exact ⟨_, e⟩
  · exact ⟨_, e⟩
theorem Own.le (h : Own S g d a) (l : Le g g') : Own S g' d a := by
  obtain ⟨o, ho⟩ := h.in_g
  have n : g'.F a = none := by
    cases q : g'.F a with
    | none => rfl
    | some u =>
      rcases l.n a u q with z | z
      · rw [h.1] at z; cases z
      · rw [ho] at z; cases z
  refine ⟨n, ?_⟩
  obtain ⟨_, ⟨ds, vs, rfl, e, t⟩ | ⟨kds, kvs, rfl, e, l', t⟩⟩ := h
  · exact .inl ⟨ds, vs, rfl, l.g _ _ e, t.mono l.f⟩
  · exact .inr ⟨kds, kvs, rfl, l.g _ _ e, l', t.mono l.f⟩
theorem Slots.le (h : Slots S g M r m) (l : Le g g') : Slots S g' M r m :=
  ⟨h.len, fun i d e q => let ⟨v, h1, h2⟩ := h.fr i d e q; ⟨v, h1, h2.mono l.f⟩, fun i d e q => let ⟨a, h1, h2⟩ := h.ow i d e q; ⟨a, h1, h2.le l⟩, h.dj⟩
theorem Val.mix {c : Cl} (h : Val S g g' c d v) (fg : Same g'.F g'.G) : Rp S g'.G d v := by
  cases c with
  | fresh => obtain ⟨a, rfl, _, o⟩ := h; exact o.rp fg
  | clean => exact Rp.mono fg h
  | mix => exact h
theorem Val.le {c : Cl} (h : Val S g g' c d v) (l : Le g' g'') : Val S g g'' c d v := by
  cases c with
  | fresh => obtain ⟨a, rfl, n, o⟩ := h; exact ⟨a, rfl, n, o.le l⟩
  | clean => exact Rp.mono l.f h
  | mix => exact Rp.mono l.g h
theorem Val.back {g0 : Gh} {c : Cl} (h : Val S g g' c d v) (l : Le g0 g) : Val S g0 g' c d v := by
  cases c with
  | fresh => obtain ⟨a, rfl, n, o⟩ := h; exact ⟨a, rfl, l.g.free n, o⟩
  | clean => exact h
  | mix => exact h

theorem OkB.hn (k : OkB S B g H j) {p : Addr} (h : H p = none) : g.F p = none ∧ g.G p = none ∧ ¬ g.A p ∧ B.H0 p = none := by
  have hg : g.G p = none := k.gh.free h
  refine ⟨k.fg.free hg, hg, fun z => k.jr |> fun q => S.dom q z h, k.h1 p h⟩
/-- a new object that is seen, not frozen -/
def Gh.see (g : Gh) (p : Addr) (o : HO) : Gh := ⟨g.F, upd g.G p o, g.A⟩
/-- a new object, frozen -/
def Gh.frz (g : Gh) (p : Addr) (o : HO) : Gh := ⟨upd g.F p o, upd g.G p o, g.A⟩
theorem same_upd {F G : Hp} {p : Addr} {o : HO} (e : Same F G) : Same (upd F p o) (upd G p o) := fun b u h => by
  by_cases hb : b = p
  · subst hb; rw [upd_same] at h ⊢; exact h
  · rw [upd_ne hb] at h ⊢; exact e b u h
theorem same_new {F : Hp} {p : Addr} {o : HO} (n : F p = none) : Same F (upd F p o) := fun b u h => by
  rw [upd_ne (ne_of_none h n)]; exact h
theorem Le.see {p : Addr} {o : HO} (n : g.G p = none) : Le g (g.see p o) := ⟨Same.refl _, same_new n, fun _ _ e => .inl e⟩
theorem Le.frz {p : Addr} {o : HO} (fg : Same g.F g.G) (n : g.G p = none) : Le g (g.frz p o) :=
  ⟨same_new (fg.free n), same_new n, fun b u e => by
    by_cases hb : b = p
    · subst hb; exact .inr n
    · left
      have e' : upd g.F p o b = some u := e
      rw [upd_ne hb] at e'
      exact e'⟩
theorem OkB.see (k : OkB S B g H j) {p : Addr} (o : HO) (h : H p = none) : OkB S B (g.see p o) (upd H p o) j := by
  obtain ⟨hf, hg, ha, h0⟩ := k.hn h
  refine ⟨k.fg.trans (same_new hg), same_upd k.gh, fun b u e => ?_, S.frame k.jr (Same.refl _) fun b z => upd_ne fun q => ha (q ▸ z), k.f0, fun b u e => ?_, k.a0, fun b u e n => ?_, fun b e => ?_, ?_⟩
  · by_cases hb : b = p
    · subst hb; exact ha
    · have e' : upd g.G p o b = some u := e
      rw [upd_ne hb] at e'
      exact k.ga b u e'
  · by_cases hb : b = p
    · subst hb; exact .inr h0
    · have e' : upd g.G p o b = some u := e
      rw [upd_ne hb] at e'
      exact k.g0 b u e'
  · rw [upd_ne (ne_of_none e h0)]; exact k.h0 b u e n
  · by_cases hb : b = p
    · subst hb; exact h0
    · rw [upd_ne hb] at e; exact k.h1 b e
  · obtain ⟨o1, u1, e1⟩ := k.sm
    exact ⟨o1, u1, by rw [upd_ne (ne_of_none e1 h)]; exact e1⟩
theorem OkB.frz (k : OkB S B g H j) {p : Addr} (o : HO) (h : H p = none) : OkB S B (g.frz p o) (upd H p o) j := by
  obtain ⟨hf, hg, ha, h0⟩ := k.hn h
  have q := k.see o h
  exact ⟨same_upd k.fg, q.gh, q.ga, S.frame q.jr (same_new hf) fun _ _ => rfl, k.f0.trans (same_new hf), q.g0, q.a0, q.h0, q.h1, q.sm⟩
/-- freeze an owned thing -/
def Gh.ice (g : Gh) (a : Addr) : Gh := ⟨fun b => if b = a then g.G a else g.F b, g.G, g.A⟩
theorem ice_same {a : Addr} (n : g.F a = none) : Same g.F (g.ice a).F := fun b o e => by
  show (if b = a then g.G a else g.F b) = some o
  by_cases hb : b = a
  · subst hb; rw [n] at e; cases e
  · rw [if_neg hb]; exact e
theorem ice_at {a : Addr} : (g.ice a).F a = g.G a := if_pos rfl
theorem OkB.ice (k : OkB S B g H j) {a : Addr} (n : g.F a = none) : OkB S B (g.ice a) H j :=
  ⟨fun b o e => by
    have e' : (if b = a then g.G a else g.F b) = some o := e
    by_cases hb : b = a
    · subst hb; rw [if_pos rfl] at e'; exact e'
    · rw [if_neg hb] at e'; exact k.fg b o e', k.gh, k.ga, S.frame k.jr (ice_same n) fun _ _ => rfl, k.f0.trans (ice_same n), k.g0, k.a0, k.h0, k.h1, k.sm⟩
theorem Own.ice (h : Own S g d a) : Rp S (g.ice a).F d (.ref a) := by
  obtain ⟨n, ⟨ds, vs, rfl, e, t⟩ | ⟨kds, kvs, rfl, e, l, t⟩⟩ := h
  · exact .lst (ice_at.trans e) (t.mono (ice_same n))
  · exact .dct (ice_at.trans e) l (t.mono (ice_same n))
theorem Le.ice {a : Addr} (l : Le g g') (n : g.G a = none) (n' : g'.F a = none) : Le g (g'.ice a) :=
  ⟨l.f.trans (ice_same n'), l.g, fun b o e => by
    have e' : (if b = a then g'.G a else g'.F b) = some o := e
    by_cases hb : b = a
    · subst hb; exact .inr n
    · rw [if_neg hb] at e'; exact l.n b o e'⟩
/-- the slots do not see the freezing of what none of them holds -/
theorem Slots.ice {a : Addr} (h : Slots S g M r m) (l : Le g g') (n : g.G a = none) (n' : g'.F a = none) : Slots S (g'.ice a) M r m := h.le (l.ice n n')
theorem Slots.len_eq (h : Slots S g M r m) : r.length = m.length := h.len
end

/-! ### an exception: its class, its field's value -/
structure Ex where
  c : Nat
  d : Option D
def ExR (S : Js J) (F : Hp) (e : Ex) (cls : Value) (dx : Option Addr) : Prop :=
  cls = .ref (S.xc e.c) ∧ match e.d with
    | none => dx = none
    | some d => ∃ a v, dx = some a ∧ F a = some (.xd [(S.xf e.c, v)]) ∧ Rp S F d v
theorem ExR.mono {S : Js J} {F G : Hp} {e : Ex} {cls : Value} {dx : Option Addr} (h : ExR S F e cls dx) (s : Same F G) : ExR S G e cls dx := by
  obtain ⟨h1, h2⟩ := h
  refine ⟨h1, ?_⟩
  split at h2
  · exact h2
  · obtain ⟨a, v, h3, h4, h5⟩ := h2
    exact ⟨a, v, h3, s _ _ h4, h5.mono s⟩
end Mp

/-! N2: closures by what they bring about (with what is raised); the readings; operators, arguments, displays. -/
namespace Mp
open PySem PySem.Spec L2
variable {J : Type}

abbrev XP (J : Type) := Ex → Sd → J → Prop
abbrev Ev (J : Type) := Sd → J → (D → J → Prop) → XP J → Prop
abbrev Tv (J : Type) := Sd → J → (Bool → J → Prop) → XP J → Prop
abbrev Av (J : Type) := Sd → J → (List D → J → Prop) → XP J → Prop

/-- what is told of a closure: more is brought about, if more is wished -/
class MoE (f : Ev J) : Prop where
  mo : ∀ {m : Sd} {j : J} {P P' : D → J → Prop} {E E' : XP J}, f m j P E → (∀ d j', P d j' → P' d j') → (∀ e m' j', E e m' j' → E' e m' j') → f m j P' E'
class MoT (f : Tv J) : Prop where
  mo : ∀ {m : Sd} {j : J} {P P' : Bool → J → Prop} {E E' : XP J}, f m j P E → (∀ d j', P d j' → P' d j') → (∀ e m' j', E e m' j' → E' e m' j') → f m j P' E'
class MoA (f : Av J) : Prop where
  mo : ∀ {m : Sd} {j : J} {P P' : List D → J → Prop} {E E' : XP J}, f m j P E → (∀ d j', P d j' → P' d j') → (∀ e m' j', E e m' j' → E' e m' j') → f m j P' E'

section
variable (S : Js J) (B : Bs) (M : Nat → Bool) (W : WX)
/-- what is raised is taken -/
def XOut (g : Gh) (E : XP J) : Prop := ∀ e m' j' g' r' H' cls dx, E e m' j' → Same g.F g'.F → Ok S B g' M r' H' m' j' → ExR S g'.F e cls dx → W cls dx r' H'
def rdE (c : Cl) (f : Ev J) : TE := fun r H Q => ∃ g m j P E, Ok S B g M r H m j ∧ f m j P E ∧ (∀ d j' g' v H', P d j' → Le g g' → Ok S B g' M r H' m j' → Val S g g' c d v → Q v H') ∧ XOut S B M W g E
def rdT (f : Tv J) : TT := fun r H Q => ∃ g m j P E, Ok S B g M r H m j ∧ f m j P E ∧ (∀ d j' g' H', P d j' → Le g g' → Ok S B g' M r H' m j' → Q d H') ∧ XOut S B M W g E
/-- arguments: frozen (c = true), or seen -/
def hp (c : Bool) (g : Gh) : Hp := if c then g.F else g.G
def rdA (c : Bool) (f : Av J) : TA := fun r H Q => ∃ g m j P E, Ok S B g M r H m j ∧ f m j P E ∧ (∀ ds j' g' vs H', P ds j' → Le g g' → Ok S B g' M r H' m j' → RpL S (hp c g') ds vs → Q vs H') ∧ XOut S B M W g E
end
theorem XOut.le {S : Js J} {B : Bs} {M : Nat → Bool} {W : WX} {g g' : Gh} {E : XP J} (h : XOut S B M W g E) (l : Same g.F g'.F) : XOut S B M W g' E := fun e m j g2 r H cls dx he l2 => h e m j g2 r H cls dx he (l.trans l2)
def W0 : WX := fun _ _ _ _ => False
theorem takesW0 {X : Cx} : Takes X W0 := fun u s' ⟨a, B, sI, pins, σ, H, cls, d, e, I, nb, up, sky, na, os, ag, w⟩ => w.elim
def xNo : XP J := fun _ _ _ => False
theorem XOut.no {S : Js J} {B : Bs} {M : Nat → Bool} {W : WX} {g : Gh} : XOut S B M W g (xNo : XP J) := fun _ _ _ _ _ _ _ _ h => h.elim

theorem PE.imp {X : Cx} {e : Expr} {t t' : TE} (h : PE X e t) (i : ∀ r H Q, t' r H Q → t r H Q) : PE X e t' := ⟨fun pins s σ H Q I q => h.run pins s σ H Q I (i _ _ _ q)⟩
theorem PE.or {X : Cx} {e : Expr} {t t' : TE} (h : PE X e t) (h' : PE X e t') : PE X e (fun r H Q => t r H Q ∨ t' r H Q) := ⟨fun pins s σ H Q I q => q.elim (h.run pins s σ H Q I) (h'.run pins s σ H Q I)⟩
theorem PT.imp {X : Cx} {e : Expr} {t t' : TT} (h : PT X e t) (i : ∀ r H Q, t' r H Q → t r H Q) : PT X e t' := ⟨fun pins s σ H Q I q => h.run pins s σ H Q I (i _ _ _ q)⟩
theorem PW.imp {X : Cx} {e : Expr} {t t' : TT} (h : PW X e t) (i : ∀ r H Q, t' r H Q → t r H Q) : PW X e t' := ⟨fun wh pins s σ H Q I q => h.run wh pins s σ H Q I (i _ _ _ q)⟩
theorem PA.imp {X : Cx} {e : List Expr} {t t' : TA} (h : PA X e t) (i : ∀ r H Q, t' r H Q → t r H Q) : PA X e t' := ⟨fun p pins s σ H Q I q => h.run p pins s σ H Q I (i _ _ _ q)⟩
theorem PS.imp {X : Cx} {e : Stmt} {t t' : TS} (h : PS X e t) (i : ∀ D r H, t' D r H → t D r H) : PS X e t' := ⟨fun pins s σ H D I q => h.run pins s σ H D I (i _ _ _ q)⟩
theorem PSs.imp {X : Cx} {e : List Stmt} {t t' : TS} (h : PSs X e t) (i : ∀ D r H, t' D r H → t D r H) : PSs X e t' := ⟨fun pins s σ H D I q => h.run pins s σ H D I (i _ _ _ q)⟩
theorem PI.imp {X : Cx} {tg e : Expr} {t t' : TI} (h : PI X tg e t) (i : ∀ r H R, t' r H R → t r H R) : PI X tg e t' := ⟨fun pins s σ H R I q => h.run pins s σ H R I (i _ _ _ q)⟩
theorem PI.or {X : Cx} {tg e : Expr} {t t' : TI} (h : PI X tg e t) (h' : PI X tg e t') : PI X tg e (fun r H Q => t r H Q ∨ t' r H Q) := ⟨fun pins s σ H Q I q => q.elim (h.run pins s σ H Q I) (h'.run pins s σ H Q I)⟩

/-! ### combinators of expressions -/
def eVar (i : Nat) (m : Sd) (j : J) (P : D → J → Prop) (E : XP J) : Prop := ∃ d, m[i]? = some (some d) ∧ P d j
def eC (d : D) (m : Sd) (j : J) (P : D → J → Prop) (E : XP J) : Prop := P d j
def eOp (φ : D → D → Option D) (fa fb : Ev J) (m : Sd) (j : J) (P : D → J → Prop) (E : XP J) : Prop := fa m j (fun x j1 => fb m j1 (fun y j2 => ∃ z, φ x y = some z ∧ P z j2) E) E
def eUn (φ : D → Option D) (fa : Ev J) (m : Sd) (j : J) (P : D → J → Prop) (E : XP J) : Prop := fa m j (fun x j1 => ∃ z, φ x = some z ∧ P z j1) E
def aNil (m : Sd) (j : J) (P : List D → J → Prop) (E : XP J) : Prop := P [] j
def aCons (fa : Ev J) (fr : Av J) (m : Sd) (j : J) (P : List D → J → Prop) (E : XP J) : Prop := fa m j (fun x j1 => fr m j1 (fun xs j2 => P (x :: xs) j2) E) E
def LINE : Nat := 1000000
theorem line_ok : LINE ≤ sizeLine := by rw [sizeLine_eq]; decide
def eTup (f : Av J) (m : Sd) (j : J) (P : D → J → Prop) (E : XP J) : Prop := f m j (fun xs j1 => xs.length ≤ LINE ∧ P (.tup xs) j1) E
def eLst (f : Av J) (m : Sd) (j : J) (P : D → J → Prop) (E : XP J) : Prop := f m j (fun xs j1 => xs.length ≤ LINE ∧ P (.lst xs) j1) E
def eB (φ : List D → Option D) (fa : Av J) (m : Sd) (j : J) (P : D → J → Prop) (E : XP J) : Prop := fa m j (fun xs j1 => ∃ z, φ xs = some z ∧ P z j1) E
section
variable {φ : D → D → Option D} {ψ : D → Option D} {fa fb : Ev J} {fr : Av J} {d : D} {i : Nat} {χ : List D → Option D}
instance : MoE (eVar (J := J) i) := ⟨fun ⟨d, h, p⟩ q _ => ⟨d, h, q _ _ p⟩⟩
instance : MoE (eC (J := J) d) := ⟨fun p q _ => q _ _ p⟩
instance [ha : MoE fa] [hb : MoE fb] : MoE (eOp φ fa fb) := ⟨fun h q x => ha.mo h (fun _ _ h1 => hb.mo h1 (fun _ _ ⟨z, e, p⟩ => ⟨z, e, q _ _ p⟩) x) x⟩
instance [ha : MoE fa] : MoE (eUn ψ fa) := ⟨fun h q x => ha.mo h (fun _ _ ⟨z, e, p⟩ => ⟨z, e, q _ _ p⟩) x⟩
instance : MoA (aNil (J := J)) := ⟨fun p q _ => q _ _ p⟩
instance [ha : MoE fa] [hb : MoA fr] : MoA (aCons fa fr) := ⟨fun h q x => ha.mo h (fun _ _ h1 => hb.mo h1 (fun _ _ p => q _ _ p) x) x⟩
instance [hb : MoA fr] : MoE (eTup fr) := ⟨fun h q x => hb.mo h (fun _ _ p => ⟨p.1, q _ _ p.2⟩) x⟩
instance [hb : MoA fr] : MoE (eLst fr) := ⟨fun h q x => hb.mo h (fun _ _ p => ⟨p.1, q _ _ p.2⟩) x⟩
instance [hb : MoA fr] : MoE (eB χ fr) := ⟨fun h q x => hb.mo h (fun _ _ ⟨z, e, p⟩ => ⟨z, e, q _ _ p⟩) x⟩
end

section
variable {S : Js J} {B : Bs} {M : Nat → Bool} {W : WX} {X : Cx} {e a b c : Expr} {pos : Pos} {f fa fb fc : Ev J}
/-! ### classes -/
theorem toClean (h : PE X e (rdE S B M W .fresh f)) : PE X e (rdE S B M W .clean f) := PE.imp h fun r H Q ⟨g, m, j, P, E, ok, hf, q, x⟩ =>
  ⟨g, m, j, P, E, ok, hf, fun d j' g' v H' p le ok' ⟨a, ev, n, o⟩ => by
    subst ev
    exact q d j' _ _ H' p (le.ice n o.1) ⟨ok'.b.ice o.1, ok.s.ice le n o.1⟩ o.ice, x⟩
theorem toMix {k : Cl} (h : PE X e (rdE S B M W k f)) : PE X e (rdE S B M W .mix f) := PE.imp h fun r H Q ⟨g, m, j, P, E, ok, hf, q, x⟩ =>
  ⟨g, m, j, P, E, ok, hf, fun d j' g' v H' p le ok' w => q d j' g' v H' p le ok' (w.mix ok'.b.fg), x⟩
/-- as a part of an argument list: frozen or seen -/
def ofB (k : Bool) : Cl := if k then .clean else .mix
theorem rp_hp {g : Gh} {k : Bool} {g0 : Gh} {d : D} {v : V} (h : Val S g0 g (ofB k) d v) : Rp S (hp k g) d v := by
  cases k <;> exact h
theorem hp_le {g g' : Gh} (l : Le g g') (k : Bool) : Same (hp k g) (hp k g') := by
  cases k
  · exact l.g
  · exact l.f
theorem hp_g {g : Gh} (fg : Same g.F g.G) (k : Bool) : Same (hp k g) g.G := by
  cases k
  · exact Same.refl _
  · exact fg
/-! ### names, constants -/
theorem e_var {i : Nat} {x : Str} (hN : X.N[i]? = some x) (hv : Vis X.env.scope x) (hd : (x == ("__debug__" : Str)) = false) (hcd : (x == ("__classdict__" : Str)) = false) : PE X (.Name x pos) (rdE S B M W (ofB (!M i)) (eVar i)) := by
  refine PE.imp (pe_var hN hv hd hcd) fun r H Q ⟨g, m, j, P, E, ok, ⟨d, he, hp⟩, q, _⟩ => ?_
  cases hM : M i with
  | false =>
    obtain ⟨v, h1, h2⟩ := ok.s.fr i _ he hM
    exact ⟨v, h1, q d j g v H hp (Le.refl g) ok (by rw [hM]; exact h2)⟩
  | true =>
    obtain ⟨a, h1, h2⟩ := ok.s.ow i _ he hM
    exact ⟨_, h1, q d j g _ H hp (Le.refl g) ok (by rw [hM]; exact h2.rp ok.b.fg)⟩
/-- a constant, scalar -/
theorem e_c {v : V} {d : D} (h : PE X e (tC v)) (r : ∀ F, Rp S F d v) : PE X e (rdE S B M W .clean (eC d)) :=
  PE.imp h fun _ H Q ⟨g, m, j, P, E, ok, hf, q, _⟩ => q d j g v H hf (Le.refl g) ok (r _)

/-! ### operators by values -/
/-- φ tells the operator on data; ci: the arguments frozen or seen; co: the answer's class -/
def OpS (S : Js J) (r : R2) (φ : D → D → Option D) (ci : Bool) (co : Cl) : Prop :=
  ∀ (B : Bs) (g : Gh) (H : Hp) (j : J) (d1 d2 d : D) (v1 v2 : V) (Q : VK), OkB S B g H j → Rp S (hp ci g) d1 v1 → Rp S (hp ci g) d2 v2 → φ d1 d2 = some d →
    (∀ g' v H', Le g g' → OkB S B g' H' j → Val S g g' co d v → Q v H') → r v1 v2 H Q
def UnS (S : Js J) (r : V → Hp → VK → Prop) (φ : D → Option D) (ci : Bool) (co : Cl) : Prop :=
  ∀ (B : Bs) (g : Gh) (H : Hp) (j : J) (d1 d : D) (v1 : V) (Q : VK), OkB S B g H j → Rp S (hp ci g) d1 v1 → φ d1 = some d →
    (∀ g' v H', Le g g' → OkB S B g' H' j → Val S g g' co d v → Q v H') → r v1 H Q
theorem tOp_rd {r : R2} {φ : D → D → Option D} {ci : Bool} {co : Cl} (ho : OpS S r φ ci co) {R : St} {H : Hp} {Q : VK} (h : rdE S B M W co (eOp φ fa fb) R H Q) : tOp r (rdE S B M W (ofB ci) fa) (rdE S B M W (ofB ci) fb) R H Q := by
  obtain ⟨g, m, j, P, E, ok, hf, q, xo⟩ := h
  refine ⟨g, m, j, _, E, ok, hf, fun x j1 g1 v1 H1 p1 l1 ok1 w1 => ⟨g1, m, j1, _, E, ok1, p1, fun y j' g2 v2 H2 p2 l2 ok2 w2 => ?_, xo.le l1.f⟩, xo⟩
  obtain ⟨d, h3, p⟩ := p2
  exact ho B g2 H2 j' x y d v1 v2 Q ok2.b (rp_hp (w1.le l2)) (rp_hp w2) h3 fun g3 v H3 l3 ok3 w3 => q d j' g3 v H3 p ((l1.trans l2).trans l3) ⟨ok3, ok2.s.le l3⟩ (w3.back (l1.trans l2))
theorem e_bin {op : Operator} {r : R2} {φ : D → D → Option D} {ci : Bool} {co : Cl} (hr : OpR X (binaryOp op) r) (ho : OpS S r φ ci co) (ha : PE X a (rdE S B M W (ofB ci) fa)) (hb : PE X b (rdE S B M W (ofB ci) fb)) :
    PE X (.BinOp a op b pos) (rdE S B M W co (eOp φ fa fb)) := PE.imp (pe_op hr ha hb) fun _ _ _ h => tOp_rd ho h
theorem e_cmp {op : CmpOp} {r : R2} {φ : D → D → Option D} {ci : Bool} {co : Cl} (hr : OpR X (compareOp op) r) (ho : OpS S r φ ci co) (ha : PE X a (rdE S B M W (ofB ci) fa)) (hb : PE X b (rdE S B M W (ofB ci) fb)) (hm : behindInMarks op b = false) :
    PE X (.Compare a [op] [b] pos) (rdE S B M W co (eOp φ fa fb)) := PE.imp (pe_cmpR hr ha hb hm) fun _ _ _ h => tOp_rd ho h
theorem e_ix {r : R2} {φ : D → D → Option D} {ci : Bool} {co : Cl} (hr : IxR X r) (ho : OpS S r φ ci co) (ha : PE X a (rdE S B M W (ofB ci) fa)) (hb : PE X b (rdE S B M W (ofB ci) fb)) (hs : PlainIx b) :
    PE X (.Subscript a b pos) (rdE S B M W co (eOp φ fa fb)) := PE.imp (pe_ix hr ha hb hs) fun _ _ _ h => tOp_rd ho h
theorem e_un {op : UnaryOp} {r : V → Hp → VK → Prop} {φ : D → Option D} {ci : Bool} {co : Cl} (hr : UnR X (unaryOp op) r) (ho : UnS S r φ ci co) (ha : PE X a (rdE S B M W (ofB ci) fa)) : PE X (.UnaryOp op a pos) (rdE S B M W co (eUn φ fa)) :=
  PE.imp (pe_un hr ha) fun R H Q ⟨g, m, j, P, E, ok, hf, q, xo⟩ =>
    ⟨g, m, j, _, E, ok, hf, fun x j' g1 v1 H1 ⟨d, h3, p⟩ l1 ok1 w1 => ho B g1 H1 j' x d v1 Q ok1.b (rp_hp w1) h3 fun g3 v H3 l3 ok3 w3 => q d j' g3 v H3 p (l1.trans l3) ⟨ok3, ok1.s.le l3⟩ (w3.back l1), xo⟩

/-! ### argument lists -/
theorem a_nil {k : Bool} : PA X [] (rdA S B M W k aNil) := PA.imp pa_nil fun r H Q ⟨g, m, j, P, E, ok, hf, q, _⟩ => q [] j g [] H hf (Le.refl g) ok .nil
theorem a_cons {es : List Expr} {fr : Av J} {k : Bool} (ha : PE X e (rdE S B M W (ofB k) fa)) (hr : PA X es (rdA S B M W k fr)) (hs : starEach (e :: es) X.env = (false, eval e X.env) :: starEach es X.env) : PA X (e :: es) (rdA S B M W k (aCons fa fr)) :=
  PA.imp (pa_cons ha hr hs) fun r H Q ⟨g, m, j, P, E, ok, hf, q, xo⟩ =>
    ⟨g, m, j, _, E, ok, hf, fun x j1 g1 v1 H1 p1 l1 ok1 w1 => ⟨g1, m, _, _, E, ok1, p1, fun xs j2 g2 vs H2 p2 l2 ok2 w2 =>
      q _ _ g2 _ H2 p2 (l1.trans l2) ok2 (.cons ((rp_hp w1).mono (hp_le l2 k)) w2), xo.le l1.f⟩, xo⟩

/-! ### displays -/
theorem rp_newT {g : Gh} {k : Bool} {p : Addr} {o : Obj} {ds : List D} {vs : List V} (fg : Same g.F g.G) (n : g.G p = none) (ho : o.dict = none) (h : RpL S (hp k g) ds vs) : Val S g (if k then g.frz p (.frz o (.tup vs)) else g.see p (.frz o (.tup vs))) (ofB k) (.tup ds) (.ref p) := by
  cases k with
  | true => exact .tup (.inl ⟨o, upd_same, ho⟩) (h.mono (same_new (fg.free n)))
  | false => exact .tup (.inl ⟨o, upd_same, ho⟩) (h.mono (same_new n))
theorem e_tup {es : List Expr} {x1 : Nat} {fr : Av J} {k : Bool} (ha : PA X es (rdA S B M W k fr)) : PE X (.Tuple es x1 pos) (rdE S B M W (ofB k) (eTup fr)) :=
  PE.imp (pe_tupF ha) fun r H Q ⟨g, m, j, P, E, ok, hf, q, xo⟩ => by
    refine ⟨g, m, j, _, E, ok, hf, fun ds j1 g1 vs H1 ⟨hl, pp⟩ l1 ok1 w1 => ⟨by rw [← w1.length]; exact Nat.le_trans hl line_ok, fun p o np hdo => ?_⟩, xo⟩
    obtain ⟨n1, n2, n3, n4⟩ := ok1.b.hn np
    have l2 : Le g1 (if k then g1.frz p (.frz o (.tup vs)) else g1.see p (.frz o (.tup vs))) := by
      cases k
      · exact Le.see n2
      · exact Le.frz ok1.b.fg n2
    refine q _ _ _ _ _ pp (l1.trans l2) ⟨?_, ok1.s.le l2⟩ ((rp_newT ok1.b.fg n2 hdo w1).back l1)
    cases k
    · exact ok1.b.see _ np
    · exact ok1.b.frz _ np
/-- a list display with frozen items: fresh; with seen ones: seen -/
theorem e_lst {es : List Expr} {fr : Av J} (ha : PA X es (rdA S B M W true fr)) : PE X (.List es pos) (rdE S B M W .fresh (eLst fr)) :=
  PE.imp (pe_lst ha) fun r H Q ⟨g, m, j, P, E, ok, hf, q, xo⟩ => by
    refine ⟨g, m, j, _, E, ok, hf, fun ds j1 g1 vs H1 ⟨hl, pp⟩ l1 ok1 w1 => ⟨by rw [← w1.length]; exact Nat.le_trans hl line_ok, fun p np => ?_⟩, xo⟩
    obtain ⟨n1, n2, n3, n4⟩ := ok1.b.hn np
    have l2 : Le g1 (g1.see p (.lst vs)) := Le.see n2
    exact q _ _ _ _ _ pp (l1.trans l2) ⟨ok1.b.see _ np, ok1.s.le l2⟩ ⟨p, rfl, l1.g.free n2, n1, .inl ⟨_, vs, rfl, upd_same, w1⟩⟩
theorem e_lstM {es : List Expr} {fr : Av J} (ha : PA X es (rdA S B M W false fr)) : PE X (.List es pos) (rdE S B M W .mix (eLst fr)) :=
  PE.imp (pe_lst ha) fun r H Q ⟨g, m, j, P, E, ok, hf, q, xo⟩ => by
    refine ⟨g, m, j, _, E, ok, hf, fun ds j1 g1 vs H1 ⟨hl, pp⟩ l1 ok1 w1 => ⟨by rw [← w1.length]; exact Nat.le_trans hl line_ok, fun p np => ?_⟩, xo⟩
    obtain ⟨n1, n2, n3, n4⟩ := ok1.b.hn np
    have l2 : Le g1 (g1.see p (.lst vs)) := Le.see n2
    exact q _ _ _ _ _ pp (l1.trans l2) ⟨ok1.b.see _ np, ok1.s.le l2⟩ (.lst upd_same (w1.mono (same_new n2)))

/-! ### how an operator answers -/
/-- a scalar -/
theorem ans {g : Gh} {H : Hp} {j : J} {d : D} {v : V} {Q : VK} (k : OkB S B g H j) (q : ∀ g' v H', Le g g' → OkB S B g' H' j → Val S g g' .clean d v → Q v H') (r : ∀ F, Rp S F d v) : Q v H := q g v H (Le.refl g) k (r _)
/-- a part of what was there -/
theorem ansP {g : Gh} {H : Hp} {j : J} {d : D} {v : V} {Q : VK} {k : Bool} (ok : OkB S B g H j) (q : ∀ g' v H', Le g g' → OkB S B g' H' j → Val S g g' (ofB k) d v → Q v H') (r : Rp S (hp k g) d v) : Q v H :=
  q g v H (Le.refl g) ok (by cases k <;> exact r)
/-- a new tuple -/
theorem ansT {g : Gh} {H : Hp} {j : J} {ds : List D} {vs : List V} {Q : VK} {k : Bool} (ok : OkB S B g H j) (q : ∀ g' v H', Le g g' → OkB S B g' H' j → Val S g g' (ofB k) (.tup ds) v → Q v H') (r : RpL S (hp k g) ds vs) : NewT H vs Q := fun p o np hdo => by
  obtain ⟨n1, n2, n3, n4⟩ := ok.hn np
  refine q (if k then g.frz p (.frz o (.tup vs)) else g.see p (.frz o (.tup vs))) _ _ ?_ ?_ (rp_newT ok.fg n2 hdo r)
  · cases k
    · exact Le.see n2
    · exact Le.frz ok.fg n2
  · cases k
    · exact ok.see _ np
    · exact ok.frz _ np
/-- a new list -/
def ofL (k : Bool) : Cl := if k then .fresh else .mix
theorem ansL {g : Gh} {H : Hp} {j : J} {ds : List D} {vs : List V} {Q : VK} {k : Bool} (ok : OkB S B g H j) (q : ∀ g' v H', Le g g' → OkB S B g' H' j → Val S g g' (ofL k) (.lst ds) v → Q v H') (r : RpL S (hp k g) ds vs) {p : Addr} (np : H p = none) : Q (.ref p) (upd H p (.lst vs)) := by
  obtain ⟨n1, n2, n3, n4⟩ := ok.hn np
  refine q (g.see p (.lst vs)) _ _ (Le.see n2) (ok.see _ np) ?_
  cases k with
  | true => exact ⟨p, rfl, n2, n1, .inl ⟨ds, vs, rfl, upd_same, r⟩⟩
  | false => exact .lst upd_same (r.mono (same_new n2))
/-- .. frozen at once -/
theorem ansF {g : Gh} {H : Hp} {j : J} {ds : List D} {vs : List V} {Q : VK} {k : Bool} (ok : OkB S B g H j) (q : ∀ g' v H', Le g g' → OkB S B g' H' j → Val S g g' (ofB k) (.lst ds) v → Q v H') (r : RpL S (hp k g) ds vs) {p : Addr} (np : H p = none) : Q (.ref p) (upd H p (.lst vs)) := by
  obtain ⟨n1, n2, n3, n4⟩ := ok.hn np
  cases k with
  | true => exact q (g.frz p (.lst vs)) _ _ (Le.frz ok.fg n2) (ok.frz _ np) (.lst upd_same (r.mono (same_new n1)))
  | false => exact q (g.see p (.lst vs)) _ _ (Le.see n2) (ok.see _ np) (.lst upd_same (r.mono (same_new n2)))
end
end Mp

/-! Mp3: the operators on data. -/
namespace Mp
open PySem PySem.Spec L2
variable {J : Type}

/-! ### whole numbers of a fair size -/
def BIG : Int := 10 ^ 60
def sm (i : Int) : Bool := decide (-BIG < i ∧ i < BIG)
theorem sm_iff {i : Int} : sm i = true ↔ -(10 ^ 60) < i ∧ i < 10 ^ 60 := by unfold sm BIG; simp
theorem sm_nat {i : Int} (h : sm i = true) : i.natAbs < 2 ^ 200 := by
  have h := sm_iff.mp h
  have : (10 ^ 60 : Nat) < 2 ^ 200 := by decide
  omega
theorem sm_log {i : Int} (h : sm i = true) : i.natAbs.log2 < 200 := PySem.Flt.log2_lt_of (by decide) (sm_nat h)

def addD : D → D → Option D
  | .int i, .int k => some (.int (i + k))
  | .str x, .str y => if x.length + y.length ≤ LINE then some (.str (x ++ y)) else none
  | .lst xs, .lst ys => if xs.length + ys.length ≤ LINE then some (.lst (xs ++ ys)) else none
  | .tup xs, .tup ys => if xs.length + ys.length ≤ LINE then some (.tup (xs ++ ys)) else none
  | _, _ => none
/-- of two lists alone -/
def addL : D → D → Option D
  | .lst xs, .lst ys => if xs.length + ys.length ≤ LINE then some (.lst (xs ++ ys)) else none
  | _, _ => none
def subD : D → D → Option D
  | .int i, .int k => some (.int (i - k))
  | _, _ => none
def rep (n : Nat) (xs : List D) : List D := (List.replicate n xs).flatten
def mulD : D → D → Option D
  | .int i, .int k => if sm i && sm k then some (.int (i * k)) else none
  | .lst xs, .int k => if decide (k ≤ 1000000) && decide (xs.length * k.toNat ≤ LINE) && decide (-1000000 ≤ k) then some (.lst (rep k.toNat xs)) else none
  | _, _ => none
def mulL : D → D → Option D
  | .lst xs, .int k => if decide (k ≤ 1000000) && decide (xs.length * k.toNat ≤ LINE) && decide (-1000000 ≤ k) then some (.lst (rep k.toNat xs)) else none
  | _, _ => none
def fdivD : D → D → Option D
  | .int i, .int k => if decide (0 < k) && sm k then some (.int (i / k)) else none
  | _, _ => none
def modD : D → D → Option D
  | .int i, .int k => if decide (0 < k) then some (.int (i % k)) else none
  | _, _ => none
def powD : D → D → Option D
  | .int i, .int k => if decide (0 ≤ k) && decide (k ≤ 1000) && decide (-(2 ^ 62) < i) && decide (i < 2 ^ 62) then some (.int (i ^ k.toNat)) else none
  | _, _ => none
def negD : D → Option D
  | .int i => some (.int (-i))
  | _ => none

section
variable {S : Js J} {B : Bs} {M : Nat → Bool} {X : Cx} {e a b c : Expr} {pos : Pos} {f fa fb fc : Ev J}
theorem RpL.nil_iff {F : Hp} {ds : List D} {vs : List V} (h : RpL S F ds vs) : ds = [] ↔ vs = [] := by
  cases h with
  | nil => simp
  | cons _ _ => simp
theorem RpL.rep {F : Hp} {ds : List D} {vs : List V} (h : RpL S F ds vs) : ∀ n, RpL S F (rep n ds) (List.replicate n vs).flatten
  | 0 => .nil
  | n + 1 => by
    unfold Mp.rep
    rw [List.replicate_succ, List.replicate_succ, List.flatten_cons, List.flatten_cons]
    exact h.append (RpL.rep h n)
theorem tup_of {F : Hp} {ds : List D} {v : V} (h : Rp S F (.tup ds) v) : ∃ a vs, v = .ref a ∧ SqF S.K F a vs ∧ RpL S F ds vs := by cases h; exact ⟨_, _, rfl, by assumption, by assumption⟩
theorem lst_of {F : Hp} {ds : List D} {v : V} (h : Rp S F (.lst ds) v) : ∃ a vs, v = .ref a ∧ F a = some (.lst vs) ∧ RpL S F ds vs := by cases h; exact ⟨_, _, rfl, by assumption, by assumption⟩
theorem int_of {F : Hp} {i : Int} {v : V} (h : Rp S F (.int i) v) : v = .int i := by cases h; rfl
theorem bl_of {F : Hp} {i : Bool} {v : V} (h : Rp S F (.bl i) v) : v = .bl i := by cases h; rfl
theorem str_of {F : Hp} {i : Str} {v : V} (h : Rp S F (.str i) v) : v = .str i := by cases h; rfl
theorem non_of {F : Hp} {v : V} (h : Rp S F .non v) : v = .non := by cases h; rfl
theorem OkB.sub {g : Gh} {H : Hp} {j : J} (k : OkB S B g H j) (ci : Bool) : Same (hp ci g) H := (hp_g k.fg ci).trans k.gh

/-- the union of the four sums -/
def rAddD (K : PySem.W.Frag) : R2 := fun x y H Q => (rI0 (fun i j => .int (i + j)) x y H Q) ∨ (∃ i j, x = .str i ∧ y = .str j ∧ i.length + j.length ≤ sizeLine ∧ Q (.str (i ++ j)) H) ∨ rCat x y H Q ∨ rCatF K x y H Q
theorem op_addD : OpR X (binaryOp .Add) (rAddD X.K) := op_add.or (op_add_str.or (op_cat.or op_catF))
theorem s_add {ci : Bool} : OpS S (rAddD S.K) addD ci (ofB ci) := by
  intro B g H j d1 d2 d v1 v2 Q ok h1 h2 e q
  unfold addD at e
  split at e
  · cases e; rw [int_of h1, int_of h2]
    exact .inl ⟨_, _, rfl, rfl, q g _ H (Le.refl g) ok (by cases ci <;> exact .int _)⟩
  · split at e
    · rename_i hl
      cases e; rw [str_of h1, str_of h2]
      exact .inr (.inl ⟨_, _, rfl, rfl, Nat.le_trans hl line_ok, q g _ H (Le.refl g) ok (by cases ci <;> exact .str _)⟩)
    · cases e
  · split at e
    · rename_i xs ys hl
      cases e
      obtain ⟨a, vs, rfl, ha, ra⟩ := lst_of h1
      obtain ⟨b, ws, rfl, hb, rb⟩ := lst_of h2
      refine .inr (.inr (.inl ⟨a, b, vs, ws, rfl, rfl, ok.sub ci _ _ ha, ok.sub ci _ _ hb, ?_, fun p np => ansF (B := B) ok q (ra.append rb) np⟩))
      rw [← ra.length, ← rb.length]; exact Nat.le_trans hl line_ok
    · cases e
  · split at e
    · rename_i xs ys hl
      cases e
      obtain ⟨a, vs, rfl, ha, ra⟩ := tup_of h1
      obtain ⟨b, ws, rfl, hb, rb⟩ := tup_of h2
      refine .inr (.inr (.inr ⟨a, b, vs, ws, rfl, rfl, sqT_same (ok.sub ci) ha.t, sqT_same (ok.sub ci) hb.t, ?_, fun z => ?_, fun z z' => ?_, fun _ _ => ansT (B := B) ok q (ra.append rb)⟩))
      · rw [← ra.length, ← rb.length]; exact Nat.le_trans hl line_ok
      · obtain rfl := ra.nil_iff.mpr z
        exact ansP (B := B) ok q h2
      · obtain rfl := rb.nil_iff.mpr z'
        rw [List.append_nil] at q
        exact ansP (B := B) ok q h1
    · cases e
  · cases e
theorem s_addL {ci : Bool} : OpS S rCat addL ci (ofL ci) := by
  intro B g H j d1 d2 d v1 v2 Q ok h1 h2 e q
  unfold addL at e
  split at e
  · split at e
    · rename_i xs ys hl
      cases e
      obtain ⟨a, vs, rfl, ha, ra⟩ := lst_of h1
      obtain ⟨b, ws, rfl, hb, rb⟩ := lst_of h2
      refine ⟨a, b, vs, ws, rfl, rfl, ok.sub ci _ _ ha, ok.sub ci _ _ hb, ?_, fun p np => ansL (B := B) ok q (ra.append rb) np⟩
      rw [← ra.length, ← rb.length]; exact Nat.le_trans hl line_ok
    · cases e
  · cases e
theorem s_sub {ci : Bool} : OpS S (rI0 fun i j => .int (i - j)) subD ci .clean := by
  intro B g H j d1 d2 d v1 v2 Q ok h1 h2 e q
  unfold subD at e
  split at e
  · cases e; rw [int_of h1, int_of h2]
    exact ⟨_, _, rfl, rfl, ans (B := B) ok q fun _ => .int _⟩
  · cases e
def rMulD : R2 := fun x y H Q => rI CMulW (fun i j => .int (i * j)) x y H Q ∨ rRep x y H Q
theorem op_mulD : OpR X (binaryOp .Mult) rMulD := op_mulW.or op_rep
theorem s_mul {ci : Bool} : OpS S rMulD mulD ci (ofB ci) := by
  intro B g H j d1 d2 d v1 v2 Q ok h1 h2 e q
  unfold mulD at e
  split at e
  · split at e
    · rename_i hc
      rw [Bool.and_eq_true] at hc
      cases e; rw [int_of h1, int_of h2]
      exact .inl ⟨_, _, rfl, rfl, wide_mul (sm_nat hc.1) (sm_nat hc.2) (by decide) (by decide) (by decide), q g _ H (Le.refl g) ok (by cases ci <;> exact .int _)⟩
    · cases e
  · split at e
    · rename_i xs k hc
      simp only [Bool.and_eq_true, decide_eq_true_eq] at hc
      cases e; rw [int_of h2]
      obtain ⟨a, vs, rfl, ha, ra⟩ := lst_of h1
      refine .inr ⟨a, k, vs, rfl, rfl, ok.sub ci _ _ ha, by omega, by omega, ?_, fun p np => ansF (B := B) ok q (ra.rep _) np⟩
      rw [← ra.length]; exact Nat.le_trans hc.1.2 line_ok
    · cases e
  · cases e
theorem s_mulL {ci : Bool} : OpS S rRep mulL ci (ofL ci) := by
  intro B g H j d1 d2 d v1 v2 Q ok h1 h2 e q
  unfold mulL at e
  split at e
  · split at e
    · rename_i xs k hc
      simp only [Bool.and_eq_true, decide_eq_true_eq] at hc
      cases e; rw [int_of h2]
      obtain ⟨a, vs, rfl, ha, ra⟩ := lst_of h1
      refine ⟨a, k, vs, rfl, rfl, ok.sub ci _ _ ha, by omega, by omega, ?_, fun p np => ansL (B := B) ok q (ra.rep _) np⟩
      rw [← ra.length]; exact Nat.le_trans hc.1.2 line_ok
    · cases e
  · cases e
theorem s_fdiv {ci : Bool} : OpS S (rI CDivW fun i j => .int (i / j)) fdivD ci .clean := by
  intro B g H j d1 d2 d v1 v2 Q ok h1 h2 e q
  unfold fdivD at e
  split at e
  · split at e
    · rename_i hc
      rw [Bool.and_eq_true, decide_eq_true_eq] at hc
      cases e; rw [int_of h1, int_of h2]
      exact ⟨_, _, rfl, rfl, wide_div hc.1 (sm_nat hc.2) (by decide) (by decide), ans (B := B) ok q fun _ => .int _⟩
    · cases e
  · cases e
theorem s_mod {ci : Bool} : OpS S (rI (fun _ j => 0 < j) fun i j => .int (i % j)) modD ci .clean := by
  intro B g H j d1 d2 d v1 v2 Q ok h1 h2 e q
  unfold modD at e
  split at e
  · split at e
    · rename_i hc
      rw [decide_eq_true_eq] at hc
      cases e; rw [int_of h1, int_of h2]
      exact ⟨_, _, rfl, rfl, hc, ans (B := B) ok q fun _ => .int _⟩
    · cases e
  · cases e
theorem s_pow {ci : Bool} : OpS S (rI CPow fun i j => .int (i ^ j.toNat)) powD ci .clean := by
  intro B g H j d1 d2 d v1 v2 Q ok h1 h2 e q
  unfold powD at e
  split at e
  · split at e
    · rename_i hc
      simp only [Bool.and_eq_true, decide_eq_true_eq] at hc
      cases e; rw [int_of h1, int_of h2]
      exact ⟨_, _, rfl, rfl, ⟨hc.1.1.1, by omega, by omega⟩, ans (B := B) ok q fun _ => .int _⟩
    · cases e
  · cases e
theorem s_neg {ci : Bool} : UnS S (rU fun i => .int (-i)) negD ci .clean := by
  intro B g H j d1 d v1 Q ok h1 e q
  unfold negD at e
  split at e
  · cases e; rw [int_of h1]
    exact ⟨_, rfl, ans (B := B) ok q fun _ => .int _⟩
  · cases e

/-! ### comparisons of ints -/
def cmpD (p : Int → Int → Bool) : D → D → Option D
  | .int i, .int k => some (.bl (p i k))
  | _, _ => none
theorem s_cmp {p : Int → Int → Bool} {ci : Bool} : OpS S (rI0 fun i j => .bl (p i j)) (cmpD p) ci .clean := by
  intro B g H j d1 d2 d v1 v2 Q ok h1 h2 e q
  unfold cmpD at e
  split at e
  · cases e; rw [int_of h1, int_of h2]
    exact ⟨_, _, rfl, rfl, ans (B := B) ok q fun _ => .bl _⟩
  · cases e
/-- is None -/
def isND : D → D → Option D
  | .non, .non => some (.bl true)
  | .jar, _ => none
  | _, .non => some (.bl false)
  | _, _ => none
def notND : D → D → Option D
  | .non, .non => some (.bl false)
  | .jar, _ => none
  | _, .non => some (.bl true)
  | _, _ => none
theorem ne_non {F : Hp} {d : D} {v : V} (h : Rp S F d v) (hd : d ≠ .non) (hj : d ≠ .jar) : v ≠ .non := by
  intro e; subst e
  generalize hv : V.non = v at h
  cases h <;> first | exact hd rfl | exact hj rfl | cases hv
theorem s_isN {ci : Bool} : OpS S (fun x y H Q => y = .non ∧ Q (.bl (decide (x = .non))) H) isND ci .clean := by
  intro B g H j d1 d2 d v1 v2 Q ok h1 h2 e q
  unfold isND at e
  split at e
  · cases e; rw [non_of h1, non_of h2]
    exact ⟨rfl, ans (B := B) ok q fun _ => .bl _⟩
  · cases e
  · rename_i _ hn hj
    cases e; rw [non_of h2]
    refine ⟨rfl, ?_⟩
    rw [decide_eq_false (ne_non h1 hn hj)]
    exact ans (B := B) ok q fun _ => .bl _
  · cases e
theorem s_notN {ci : Bool} : OpS S (fun x y H Q => y = .non ∧ Q (.bl (!decide (x = .non))) H) notND ci .clean := by
  intro B g H j d1 d2 d v1 v2 Q ok h1 h2 e q
  unfold notND at e
  split at e
  · cases e; rw [non_of h1, non_of h2]
    exact ⟨rfl, ans (B := B) ok q fun _ => .bl _⟩
  · cases e
  · rename_i _ hn hj
    cases e; rw [non_of h2]
    refine ⟨rfl, ?_⟩
    rw [decide_eq_false (ne_non h1 hn hj)]
    exact ans (B := B) ok q fun _ => .bl _
  · cases e
end

/-! ### data as the model's own -/
mutual
def py : D → Option PyData
  | .non => some .none
  | .bl b => some (.bool b)
  | .int i => some (.int i)
  | .str x => some (.str x)
  | .tup xs => match pyL xs with | some ys => some (.tuple ys) | none => none
  | .lst xs => match pyL xs with | some ys => some (.list ys) | none => none
  | .dct kvs => match pyK kvs with | some ys => some (.dict ys) | none => none
  | _ => none
def pyL : List D → Option (List PyData)
  | [] => some []
  | x :: xs => match py x, pyL xs with | some y, some ys => some (y :: ys) | _, _ => none
def pyK : List (Key × D) → Option (List (PyData × PyData))
  | [] => some []
  | (k, x) :: xs => match py x, pyK xs with | some y, some ys => some ((match k with | .inl i => .int i | .inr s => .str s, y) :: ys) | _, _ => none
end
section
variable {S : Js J} {F : Hp}
mutual
theorem dp_of : ∀ {d : D} {v : V} {p : PyData}, Rp S F d v → py d = some p → p.hasDict = false → Dp S.K F v p
  | _, _, _, .non, e, _ => by unfold py at e; cases e; exact .non
  | _, _, _, .bl b, e, _ => by unfold py at e; cases e; exact .bl b
  | _, _, _, .int b, e, _ => by unfold py at e; cases e; exact .int b
  | _, _, _, .str b, e, _ => by unfold py at e; cases e; exact .str b
  | _, _, _, .tup h t, e, n => by
    unfold py at e
    split at e
    · cases e
      exact .tup h.t (dpl_of t (by assumption) (by simpa [PyData.hasDict] using n))
    · cases e
  | _, _, _, .lst h t, e, n => by
    unfold py at e
    split at e
    · cases e
      exact .lst (.of h) (dpl_of t (by assumption) (by simpa [PyData.hasDict] using n))
    · cases e
  | _, _, _, .dct h l t, e, n => by
    unfold py at e
    split at e
    · cases e
      simp [PyData.hasDict] at n
    · cases e
  | _, _, _, .jar, e, _ => by unfold py at e; cases e
  | _, _, _, .ins _ _ _, e, _ => by unfold py at e; cases e
theorem dpl_of : ∀ {ds : List D} {vs : List V} {ps : List PyData}, RpL S F ds vs → pyL ds = some ps → PyData.hasDictAll ps = false → DpAll S.K F vs ps
  | _, _, _, .nil, e, _ => by unfold pyL at e; cases e; exact .nil
  | _, _, _, .cons h t, e, n => by
    unfold pyL at e
    split at e
    · cases e
      simp only [PyData.hasDictAll, Bool.or_eq_false_iff] at n
      exact .cons (dp_of h (by assumption) n.1) (dpl_of t (by assumption) n.2)
    · cases e
end
end
mutual
theorem Dp_mono {K : PySem.W.Frag} {F G : Hp} (s : Same F G) : ∀ {p : PyData} {v : V}, Dp K F v p → Dp K G v p
  | _, _, .non => .non
  | _, _, .bl b => .bl b
  | _, _, .int b => .int b
  | _, _, .str b => .str b
  | _, _, .lst h t => .lst (sqL_same s h) (DpAll_mono s t)
  | _, _, .tup h t => .tup (sqT_same s h) (DpAll_mono s t)
theorem DpAll_mono {K : PySem.W.Frag} {F G : Hp} (s : Same F G) : ∀ {p : List PyData} {v : List V}, DpAll K F v p → DpAll K G v p
  | _, _, .nil => .nil
  | _, _, .cons h t => .cons (Dp_mono s h) (DpAll_mono s t)
end

/-- == of data without dicts -/
def eqP (x y : D) : Option Bool := match py x, py y with
  | some p, some q => if SeqAt.shaped p && SeqAt.shaped q then some (PyData.eqv p q) else none
  | _, _ => none
def eqB : D → D → Option Bool
  | .int i, .int k => some (decide (i = k))
  | .str i, .str k => some (decide (i = k))
  | .bl i, .bl k => some (decide (i = k))
  | x, y => eqP x y
def eqD (x y : D) : Option D := match eqB x y with | some b => some (.bl b) | none => none
def neD (x y : D) : Option D := match eqB x y with | some b => some (.bl (!b)) | none => none
theorem noDict {p : PyData} (h : SeqAt.shaped p = true) : p.hasDict = false := PyData.hasDict_of_canLay _ (SeqAt.canLay_of_shaped h)
def rEqE (K : PySem.W.Frag) : R2 := fun x y H Q => rEq x y H Q ∨ rEqD K x y H Q
def rNeE (K : PySem.W.Frag) : R2 := fun x y H Q => rNe x y H Q ∨ rNeD K x y H Q
section
variable {S : Js J} {X : Cx}
theorem op_eqE (hu : X.A.units + 64 < cLine) : OpR X (compareOp .Eq) (rEqE X.K) := op_eq.or (op_eqD hu)
theorem op_neE (hu : X.A.units + 64 < cLine) : OpR X (compareOp .NotEq) (rNeE X.K) := op_ne.or (op_neD hu)
/-- what is known of two things that are compared -/
theorem eqB_cases {F : Hp} {d1 d2 : D} {v1 v2 : V} {b : Bool} (h1 : Rp S F d1 v1) (h2 : Rp S F d2 v2) (e : eqB d1 d2 = some b) : (scal v1 v2 = true ∧ decide (v1 = v2) = b) ∨ ∃ p q, Dp S.K F v1 p ∧ Dp S.K F v2 q ∧ SeqAt.shaped p = true ∧ SeqAt.shaped q = true ∧ PyData.eqv p q = b := by
  unfold eqB at e
  split at e
  · cases e
    rw [int_of h1, int_of h2]
    exact .inl ⟨rfl, by rw [Bool.eq_iff_iff]; simp⟩
  · cases e
    rw [str_of h1, str_of h2]
    exact .inl ⟨rfl, by rw [Bool.eq_iff_iff]; simp⟩
  · cases e
    rw [bl_of h1, bl_of h2]
    exact .inl ⟨rfl, by rw [Bool.eq_iff_iff]; simp⟩
  · unfold eqP at e
    split at e
    · split at e
      · rename_i p q' hp hq hs
        rw [Bool.and_eq_true] at hs
        cases e
        exact .inr ⟨p, q', dp_of h1 hp (noDict hs.1), dp_of h2 hq (noDict hs.2), hs.1, hs.2, rfl⟩
      · cases e
    · cases e
theorem s_eq {ci : Bool} : OpS S (rEqE S.K) eqD ci .clean := by
  intro B g H j d1 d2 d v1 v2 Q ok h1 h2 e q
  unfold eqD at e
  split at e
  · rename_i b he
    cases e
    rcases eqB_cases h1 h2 he with ⟨c1, c2⟩ | ⟨p, q', c1, c2, c3, c4, c5⟩
    · exact .inl ⟨c1, by rw [c2]; exact ans (B := B) ok q fun _ => .bl _⟩
    · exact .inr ⟨p, q', Dp_mono (ok.sub ci) c1, Dp_mono (ok.sub ci) c2, c3, c4, by rw [c5]; exact ans (B := B) ok q fun _ => .bl _⟩
  · cases e
theorem s_ne {ci : Bool} : OpS S (rNeE S.K) neD ci .clean := by
  intro B g H j d1 d2 d v1 v2 Q ok h1 h2 e q
  unfold neD at e
  split at e
  · rename_i b he
    cases e
    rcases eqB_cases h1 h2 he with ⟨c1, c2⟩ | ⟨p, q', c1, c2, c3, c4, c5⟩
    · exact .inl ⟨c1, by rw [c2]; exact ans (B := B) ok q fun _ => .bl _⟩
    · exact .inr ⟨p, q', Dp_mono (ok.sub ci) c1, Dp_mono (ok.sub ci) c2, c3, c4, by rw [c5]; exact ans (B := B) ok q fun _ => .bl _⟩
  · cases e
/-! ### items -/
def idxD : D → D → Option D
  | .lst xs, .int i => atI xs i
  | .tup xs, .int i => atI xs i
  | .str z, .int i => if z.length ≤ LINE then (atI z.cps.toList i).map fun c => .str ⟨#[c]⟩ else none
  | _, _ => none
theorem RpL.atI {F : Hp} {ds : List D} {vs : List V} {i : Int} {d : D} (h : RpL S F ds vs) (e : L2.atI ds i = some d) : ∃ v, L2.atI vs i = some v ∧ Rp S F d v := by
  unfold L2.atI at e ⊢
  rw [← h.length]
  cases q : ixN ds.length i with
  | none => rw [q] at e; cases e
  | some k =>
    rw [q] at e
    exact h.get e
theorem s_idx {ci : Bool} : OpS S (rIx S.K) idxD ci (ofB ci) := by
  intro B g H j d1 d2 d v1 v2 Q ok h1 h2 e q
  unfold idxD at e
  split at e
  · rw [int_of h2]
    obtain ⟨a, vs, rfl, ha, ra⟩ := lst_of h1
    obtain ⟨v, e1, r1⟩ := ra.atI e
    exact .inl ⟨a, vs, _, v, rfl, rfl, .of (ok.sub ci _ _ ha), e1, ansP (B := B) ok q r1⟩
  · rw [int_of h2]
    obtain ⟨a, vs, rfl, ha, ra⟩ := tup_of h1
    obtain ⟨v, e1, r1⟩ := ra.atI e
    exact .inr (.inl ⟨a, vs, _, v, rfl, rfl, sqT_same (ok.sub ci) ha.t, e1, ansP (B := B) ok q r1⟩)
  · split at e
    · rename_i z i hl
      rw [int_of h2, str_of h1]
      cases hc : L2.atI z.cps.toList i with
      | none => rw [hc] at e; cases e
      | some c =>
        rw [hc] at e
        cases e
        exact .inr (.inr ⟨z, i, c, rfl, rfl, Nat.le_trans hl line_ok, hc, q g _ H (Le.refl g) ok (by cases ci <;> exact .str _)⟩)
    · cases e
  · cases e
end
end Mp

/-! MpR: repr of data. -/
namespace Mp
open PySem PySem.Spec PyProof.Rows L2
/-! ### repr of data -/
section
variable {J : Type} {S : Js J} {X : Cx} {pins : List (Addr × Obj)} {σ : L2.St} {H G : Hp} {s : Shared}
theorem pairs_keys {P : Program} {w : World} : ∀ {es : List DictEntry} {kvs : List (Key × Value)} {kds : List (Key × D)} {ps : List (PyData × PyData)}, PySem.Pairs (mixKind P w) es kvs → kds.map Prod.fst = kvs.map Prod.fst → pyK kds = some ps → ∀ h : Heap, ReadsAll h (es.map (·.key)) (ps.map (·.1)) [] := by
  intro es kvs kds ps hp
  induction hp generalizing kds ps with
  | nil =>
    intro hk e h
    cases kds with
    | nil => unfold pyK at e; cases e; exact .nil
    | cons _ _ => simp at hk
  | cons h1 h2 h3 ih =>
    intro hk e h
    cases kds with
    | nil => simp at hk
    | cons kd kds =>
      obtain ⟨k, d⟩ := kd
      simp only [List.map_cons, List.cons.injEq] at hk
      unfold pyK at e
      split at e
      · cases e
        have := ih hk.2 (by assumption) h
        rw [List.map_cons, List.map_cons]
        have e1 : k = _ := hk.1
        subst e1
        refine ReadsAll.cons (as := []) (bs := []) ?_ this
        rcases keyIs_shape h1 with ⟨i, t, e2, e3⟩ | ⟨x, t, e2, e3⟩
        · rw [e2, e3]; exact .int i t
        · rw [e2, e3]; exact .str x t
      · cases e

theorem pairs_vals {P : Program} {w : World} {kvs : List (Key × V)} {us : List (Key × Value)} {es : List DictEntry} (hp : PySem.Pairs (mixKind P w) es us) (r : KV kvs us) : Vals (kvs.map Prod.snd) (es.map (·.val)) ∧ kvs.map Prod.fst = us.map Prod.fst := by
  induction hp generalizing kvs with
  | nil => cases r; exact ⟨.nil, rfl⟩
  | cons h1 h2 h3 ih =>
    cases r with
    | cons r1 r2 =>
      obtain ⟨i1, i2⟩ := ih r2
      rw [List.map_cons, List.map_cons, List.map_cons, List.map_cons, i2, r1.1, h2]
      exact ⟨.cons r1.2 i1, rfl⟩
theorem pyK_vals : ∀ {kds : List (Key × D)} {ps : List (PyData × PyData)}, pyK kds = some ps → pyL (kds.map Prod.snd) = some (ps.map (·.2))
  | [], _, e => by unfold pyK at e; cases e; rfl
  | (k, d) :: kds, _, e => by
    unfold pyK at e
    split at e
    · rename_i h1 h2
      cases e
      have := pyK_vals h2
      rw [List.map_cons]
      unfold pyL
      rw [h1, this]
      rfl
    · cases e
def NoSm (as : List Addr) : Prop := sysModules ∉ as
theorem noSm_at {H : Hp} (sm : ∃ o u, H sysModules = some (.frz o u)) {a : Addr} {o : HO} (h : H a = some o) (hn : ∀ x y, o ≠ .frz x y) : a ≠ sysModules := by
  obtain ⟨o1, u1, e⟩ := sm
  intro z
  rw [z, e] at h
  cases h
  exact hn _ _ rfl
mutual
theorem reads_of (I : Inv X pins σ H s) (hK : X.K = S.K) (gh : Same G H) (sm : ∃ o u, H sysModules = some (.frz o u)) : ∀ {d : D} {v : V} {p : PyData} {u : Value}, Rp S G d v → py d = some p → RelV v u → ∃ as, Reads s.heap u p as ∧ sysModules ∉ as
  | _, _, _, _, .non, e, r => by unfold py at e; cases e; cases r; exact ⟨_, .none, by simp⟩
  | _, _, _, _, .bl b, e, r => by unfold py at e; cases e; cases r; exact ⟨_, .bool b, by simp⟩
  | _, _, _, _, .int b, e, r => by unfold py at e; cases e; obtain ⟨t, rfl⟩ := r; exact ⟨_, .int b t, by simp⟩
  | _, _, _, _, .str b, e, r => by unfold py at e; cases e; obtain ⟨t, rfl⟩ := r; exact ⟨_, .str b t, by simp⟩
  | _, _, _, _, .tup h t, e, r => by
    unfold py at e
    split at e
    · cases e
      cases r
      obtain ⟨its, rv, ⟨o, ho, hc, n, hd⟩, _⟩ := I.tuple (by rw [hK]; exact sqT_same gh h.t)
      obtain ⟨as, h1, h2⟩ := readsL_of I hK gh sm t (by assumption) rv
      exact ⟨_, .tuple ho hc hd h1, h2⟩
    · cases e
  | _, _, _, _, .lst h t, e, r => by
    unfold py at e
    split at e
    · cases e
      cases r
      obtain ⟨its, rv, ⟨o, n, ho, hc, _, hd⟩, _⟩ := I.list (SqL.of (gh _ _ h))
      obtain ⟨as, h1, h2⟩ := readsL_of I hK gh sm t (by assumption) rv
      refine ⟨_, .list ho hc hd h1, ?_⟩
      simp only [List.mem_cons, not_or]
      exact ⟨(noSm_at sm (gh _ _ h) (by intro x y z; cases z)).symm, h2⟩
    · cases e
  | _, _, _, _, .dct h l t, e, r => by
    unfold py at e
    split at e
    · rename_i ps hps
      cases e
      cases r
      obtain ⟨_, _, vs, kv, o, es, ep, ho, hx, hd, _, hp, _⟩ := dk_of I.hok (gh _ _ h)
      obtain ⟨q1, q2⟩ := pairs_vals hp kv
      obtain ⟨as, h1, h2⟩ := readsL_of I hK gh sm t (pyK_vals hps) q1
      refine ⟨_, .dict ho hx.1 hd (pairs_keys hp (l.trans q2) hps s.heap) h1, ?_⟩
      simp only [List.cons_append, List.nil_append, List.mem_cons, not_or]
      exact ⟨(noSm_at sm (gh _ _ h) (by intro x y z; cases z)).symm, h2⟩
    · cases e
  | _, _, _, _, .jar, e, r => by unfold py at e; cases e
  | _, _, _, _, .ins _ _ _, e, r => by unfold py at e; cases e
theorem readsL_of (I : Inv X pins σ H s) (hK : X.K = S.K) (gh : Same G H) (sm : ∃ o u, H sysModules = some (.frz o u)) : ∀ {ds : List D} {vs : List V} {ps : List PyData} {us : List Value}, RpL S G ds vs → pyL ds = some ps → Vals vs us → ∃ as, ReadsAll s.heap us ps as ∧ sysModules ∉ as
  | _, _, _, _, .nil, e, r => by unfold pyL at e; cases e; cases r; exact ⟨_, .nil, by simp⟩
  | _, _, _, _, .cons h t, e, r => by
    unfold pyL at e
    split at e
    · cases e
      cases r with
      | cons r1 r2 =>
        obtain ⟨as, h1, h2⟩ := reads_of I hK gh sm h (by assumption) r1
        obtain ⟨bs, h3, h4⟩ := readsL_of I hK gh sm t (by assumption) r2
        exact ⟨_, .cons h1 h3, by simp only [List.mem_append, not_or]; exact ⟨h2, h4⟩⟩
    · cases e
end
/-- repr(x), x data -/
def reprD (d : D) : Option Str := match py d with
  | some p => if p.showable && decide (p.depth ≤ 60) && decide (p.shown.length ≤ LINE) then some p.shown else none
  | none => none
def rRepr (S : Js J) : List V → Hp → VK → Prop := fun vs H Q => ∃ G d v x, vs = [v] ∧ Same G H ∧ (∃ o u, H sysModules = some (.frz o u)) ∧ Rp S G d v ∧ reprD d = some x ∧ Q (.str x) H
theorem cr_repr (hK : X.K = S.K) (hg : X.A.guards = some []) (hu : X.A.units + 64 < cLine) : CallR X (.builtin "repr") (rRepr S) := by
  intro pins s σ H vs us Q I r h
  obtain ⟨G, d, v, x, rfl, gh, sm, hr, e, q⟩ := h
  unfold reprD at e
  split at e
  · rename_i p hp
    split at e
    · rename_i hc
      simp only [Bool.and_eq_true, decide_eq_true_eq] at hc
      cases e
      have hsz : p.shown.length ≤ sizeLine := Nat.le_trans hc.2 line_ok
      obtain ⟨u, rfl, r1⟩ := vals1 r
      obtain ⟨as, h1, h2⟩ := reads_of I hK gh sm hr hp r1
      have fin : ∀ (h' : Heap) (t : Tok) (tk : Nat), (∀ b o, s.heap.get? b = some o → h'.get? b = some o) → EP X pins σ Q (.str p.shown t) { s with heap := h', toks := tk } := fun h' t tk hk => ⟨.str _, H, I.kept hk, ⟨t, rfl⟩, q⟩
      cases h1 with
      | none => exact PySem.P.repr_of_none (fin s.heap _ _ fun _ _ z => z)
      | bool b => exact PySem.P.repr_of_bool (fin s.heap _ _ fun _ _ z => z)
      | int i t => exact PySem.P.repr_of_int (by simpa [PyData.showable] using hc.1.1) (fin s.heap _ _ fun _ _ z => z)
      | str y t => exact PySem.P.repr_of_str (fin s.heap _ _ fun _ _ z => z) hsz
      | list a1 a2 a3 a4 => exact repr_of_reads' (.list a1 a2 a3 a4) hc.1.1 (fun _ => h2) hg (by omega) (fun _ _ z => z) fin hsz
      | tuple a1 a2 a3 a4 => exact repr_of_reads' (.tuple a1 a2 a3 a4) hc.1.1 (fun _ => h2) hg (by omega) (fun _ _ z => z) fin hsz
      | dict a1 a2 a3 a4 a5 => exact repr_of_reads' (.dict a1 a2 a3 a4 a5) hc.1.1 (fun _ => h2) hg (by omega) (fun _ _ z => z) fin hsz
    · cases e
  · cases e
end
end Mp

/-! Mp4: built-ins, slices. -/
namespace Mp
open PySem PySem.Spec L2
variable {J : Type}

/-! ### built-in calls by data -/
def CallS (S : Js J) (r : List V → Hp → VK → Prop) (φ : List D → Option D) (ci : Bool) (co : Cl) : Prop :=
  ∀ (B : Bs) (g : Gh) (H : Hp) (j : J) (ds : List D) (d : D) (vs : List V) (Q : VK), OkB S B g H j → RpL S (hp ci g) ds vs → φ ds = some d →
    (∀ g' v H', Le g g' → OkB S B g' H' j → Val S g g' co d v → Q v H') → r vs H Q
section
variable {S : Js J} {B : Bs} {M : Nat → Bool} {W : WX} {X : Cx} {e a b c : Expr} {es : List Expr} {pos p : Pos} {f fa fb fc : Ev J} {fr : Av J} {x : Str} {id T : String} {r : List V → Hp → VK → Prop} {φ : List D → Option D} {ci : Bool} {co : Cl}
theorem tCB_rd (ho : CallS S r φ ci co) {R : St} {H : Hp} {Q : VK} (h : rdE S B M W co (eB φ fr) R H Q) : tCB r (rdA S B M W ci fr) R H Q := by
  obtain ⟨g, m, j, P, E, ok, hf, q, xo⟩ := h
  exact ⟨g, m, j, _, E, ok, hf, fun xs j' g1 v1 H1 ⟨d, h3, p⟩ l1 ok1 w1 => ho B g1 H1 j' xs d v1 Q ok1.b w1 h3 fun g3 v H3 l3 ok3 w3 => q d j' g3 v H3 p (l1.trans l3) ⟨ok3, ok1.s.le l3⟩ (w3.back l1), xo⟩
theorem e_callB (hc : CallR X (.builtin id) r) (ho : CallS S r φ ci co) (hg : Gl X x) (hm : X.mg x = none) (hv : bootBuiltins x = some (.builtin id)) (ha : PA X (e :: es) (rdA S B M W ci fr)) (hn : x ≠ "__name__") (hdb : (x == ("__debug__" : Str)) = false)
    (he : starEach (e :: es) X.env = (false, eval e X.env) :: starEach es X.env) (hpl : (backTo pos (starEach es X.env)).any (·.1) = false) : PE X (.Call (.Name x p) (e :: es) [] pos) (rdE S B M W co (eB φ fr)) :=
  PE.imp (pe_callB hc hg hm hv ha hn hdb he hpl) fun _ _ _ h => tCB_rd ho h
theorem e_callTy (hc : CallR X (.type T) r) (ho : CallS S r φ ci co) (hg : Gl X x) (hm : X.mg x = none) (hv : bootBuiltins x = some (.type T)) (ha : PA X (e :: es) (rdA S B M W ci fr)) (hn : x ≠ "__name__") (hdb : (x == ("__debug__" : Str)) = false)
    (he : starEach (e :: es) X.env = (false, eval e X.env) :: starEach es X.env) (hpl : (backTo pos (starEach es X.env)).any (·.1) = false) : PE X (.Call (.Name x p) (e :: es) [] pos) (rdE S B M W co (eB φ fr)) :=
  PE.imp (pe_callTy hc hg hm hv ha hn hdb he hpl) fun _ _ _ h => tCB_rd ho h

theorem one_of {F : Hp} {d : D} {vs : List V} (h : RpL S F [d] vs) : ∃ v, vs = [v] ∧ Rp S F d v := by
  cases h with
  | cons h t => cases t; exact ⟨_, rfl, h⟩
theorem two_of {F : Hp} {d d' : D} {vs : List V} (h : RpL S F [d, d'] vs) : ∃ v v', vs = [v, v'] ∧ Rp S F d v ∧ Rp S F d' v' := by
  cases h with
  | cons h t => cases t with | cons h' t => cases t; exact ⟨_, _, rfl, h, h'⟩
end

/-- the ints of a list of data -/
def ints? : List D → Option (List Int)
  | [] => some []
  | .int i :: xs => match ints? xs with | some ns => some (i :: ns) | none => none
  | _ :: _ => none
theorem ints?_map : ∀ ns : List Int, ints? (ns.map D.int) = some ns
  | [] => rfl
  | n :: ns => by simp only [List.map_cons, ints?, ints?_map ns]
theorem ints?_some : ∀ {ds : List D} {ns : List Int}, ints? ds = some ns → ds = ns.map D.int
  | [], _, e => by cases e; rfl
  | .int i :: xs, _, e => by
    unfold ints? at e
    split at e
    · rename_i h
      cases e
      rw [ints?_some h]; rfl
    · cases e
  | .non :: _, _, e => by cases e
  | .bl _ :: _, _, e => by cases e
  | .str _ :: _, _, e => by cases e
  | .tup _ :: _, _, e => by cases e
  | .lst _ :: _, _, e => by cases e
  | .dct _ :: _, _, e => by cases e
  | .jar :: _, _, e => by cases e
  | .ins _ _ :: _, _, e => by cases e
def bls? : List D → Option (List Bool)
  | [] => some []
  | .bl i :: xs => match bls? xs with | some ns => some (i :: ns) | none => none
  | _ :: _ => none
theorem bls?_map : ∀ ns : List Bool, bls? (ns.map D.bl) = some ns
  | [] => rfl
  | n :: ns => by simp only [List.map_cons, bls?, bls?_map ns]
theorem bls?_some : ∀ {ds : List D} {ns : List Bool}, bls? ds = some ns → ds = ns.map D.bl
  | [], _, e => by cases e; rfl
  | .bl i :: xs, _, e => by
    unfold bls? at e
    split at e
    · rename_i h
      cases e
      rw [bls?_some h]; rfl
    · cases e
  | .non :: _, _, e => by cases e
  | .int _ :: _, _, e => by cases e
  | .str _ :: _, _, e => by cases e
  | .tup _ :: _, _, e => by cases e
  | .lst _ :: _, _, e => by cases e
  | .dct _ :: _, _, e => by cases e
  | .jar :: _, _, e => by cases e
  | .ins _ _ :: _, _, e => by cases e

def lenB : List D → Option D
  | [.lst xs] => some (.int xs.length)
  | [.tup xs] => some (.int xs.length)
  | [.dct xs] => some (.int xs.length)
  | [.str x] => if x.length ≤ LINE then some (.int x.length) else none
  | _ => none
def sumB : List D → Option D
  | [.lst xs] => match ints? xs with | some ns => some (.int ns.sum) | none => none
  | [.tup xs] => match ints? xs with | some ns => some (.int ns.sum) | none => none
  | _ => none
def tupleB : List D → Option D
  | [.lst xs] => some (.tup xs)
  | [.tup xs] => some (.tup xs)
  | _ => none
def listB : List D → Option D
  | [.lst xs] => some (.lst xs)
  | [.tup xs] => some (.lst xs)
  | _ => none
def absB : List D → Option D
  | [.int i] => some (.int (if i < 0 then -i else i))
  | _ => none
/-- the greatest of a list that is not empty -/
def maxL : Int → List Int → Int
  | a, [] => a
  | a, b :: r => maxL (if a < b then b else a) r
def minL : Int → List Int → Int
  | a, [] => a
  | a, b :: r => minL (if b < a then b else a) r
theorem maxL_spec : ∀ (r : List Int) (a : Int), maxL a r ∈ a :: r ∧ ∀ y ∈ a :: r, y ≤ maxL a r
  | [], a => ⟨List.mem_singleton.mpr rfl, fun y h => by rw [List.mem_singleton.mp h]; exact Int.le_refl _⟩
  | b :: r, a => by
    obtain ⟨h1, h2⟩ := maxL_spec r (if a < b then b else a)
    unfold maxL
    have h3 := h2 _ List.mem_cons_self
    refine ⟨?_, fun y hy => ?_⟩
    · rcases List.mem_cons.mp h1 with h | h
      · rw [h]; split <;> simp
      · exact List.mem_cons_of_mem _ (List.mem_cons_of_mem _ h)
    · rcases List.mem_cons.mp hy with rfl | hy
      · exact Int.le_trans (by split <;> omega) h3
      · rcases List.mem_cons.mp hy with rfl | hy
        · exact Int.le_trans (by split <;> omega) h3
        · exact h2 y (List.mem_cons_of_mem _ hy)
theorem minL_spec : ∀ (r : List Int) (a : Int), minL a r ∈ a :: r ∧ ∀ y ∈ a :: r, minL a r ≤ y
  | [], a => ⟨List.mem_singleton.mpr rfl, fun y h => by rw [List.mem_singleton.mp h]; exact Int.le_refl _⟩
  | b :: r, a => by
    obtain ⟨h1, h2⟩ := minL_spec r (if b < a then b else a)
    unfold minL
    have h3 := h2 _ List.mem_cons_self
    refine ⟨?_, fun y hy => ?_⟩
    · rcases List.mem_cons.mp h1 with h | h
      · rw [h]; split <;> simp
      · exact List.mem_cons_of_mem _ (List.mem_cons_of_mem _ h)
    · rcases List.mem_cons.mp hy with rfl | hy
      · exact Int.le_trans h3 (by split <;> omega)
      · rcases List.mem_cons.mp hy with rfl | hy
        · exact Int.le_trans h3 (by split <;> omega)
        · exact h2 y (List.mem_cons_of_mem _ hy)
def maxB : List D → Option D
  | [.int i, .int k] => some (.int (if k > i then k else i))
  | [.lst xs] => match ints? xs with | some (a :: r) => some (.int (maxL a r)) | _ => none
  | _ => none
def minB : List D → Option D
  | [.int i, .int k] => some (.int (if k < i then k else i))
  | [.lst xs] => match ints? xs with | some (a :: r) => some (.int (minL a r)) | _ => none
  | _ => none
def intB : List D → Option D
  | [.int i] => some (.int i)
  | [.bl k] => some (.int (if k then 1 else 0))
  | _ => none
def strB : List D → Option D
  | [.int i] => if sm i then some (.str (toString i)) else none
  | _ => none
def reprB : List D → Option D
  | [d] => match reprD d with | some x => some (.str x) | none => none
  | _ => none
def allB : List D → Option D
  | [.lst xs] => match bls? xs with | some bs => some (.bl (bs.all id)) | none => none
  | _ => none
def isort (ns : List Int) : List Int := ns.mergeSort (fun a b => decide (a ≤ b))
theorem isort_perm (ns : List Int) : (isort ns).Perm ns := List.mergeSort_perm _ _
theorem isort_sorted (ns : List Int) : (isort ns).Pairwise (· ≤ ·) := by
  have h := List.pairwise_mergeSort (le := fun a b : Int => decide (a ≤ b)) (fun a b c h1 h2 => by simp at *; omega) (fun a b => by simp; omega) ns
  exact h.imp fun {a b} q => by simpa using q
theorem isort_unique {ns ns' : List Int} (p : ns'.Perm ns) (s : ns'.Pairwise (· ≤ ·)) : ns' = isort ns := PySem.W.ksm_same (p.trans (isort_perm ns).symm) s (isort_sorted ns)
def sortedB : List D → Option D
  | [.lst xs] => match ints? xs with | some ns => some (.lst ((isort ns).map D.int)) | none => none
  | _ => none
section
variable {S : Js J} {B : Bs} {M : Nat → Bool} {X : Cx} {ci : Bool}
def rLenD (K : PySem.W.Frag) : List V → Hp → VK → Prop := fun xs H Q => (∃ x n, xs = [x] ∧ LenV K x H n ∧ Q (.int n) H) ∨ (∃ a kvs, xs = [V.ref a] ∧ H a = some (.dK kvs) ∧ Q (.int kvs.length) H)
theorem cr_lenD : CallR X (.builtin "len") (rLenD X.K) := call_len.or call_lenD
theorem s_len : CallS S (rLenD S.K) lenB ci .clean := by
  intro B g H j ds d vs Q ok h e q
  unfold lenB at e
  split at e
  · cases e
    obtain ⟨v, rfl, k⟩ := one_of h
    obtain ⟨a, vs, rfl, ha, ra⟩ := lst_of k
    exact .inl ⟨_, vs.length, rfl, .inl ⟨vs, .of (ok.sub ci _ _ ha), rfl⟩, by rw [← ra.length]; exact ans (B := B) ok q fun _ => .int _⟩
  · cases e
    obtain ⟨v, rfl, k⟩ := one_of h
    obtain ⟨a, vs, rfl, ha, ra⟩ := tup_of k
    exact .inl ⟨_, vs.length, rfl, .inr ⟨vs, sqT_same (ok.sub ci) ha.t, rfl⟩, by rw [← ra.length]; exact ans (B := B) ok q fun _ => .int _⟩
  · cases e
    obtain ⟨v, rfl, k⟩ := one_of h
    cases k with
    | dct ha hk hr =>
      refine .inr ⟨_, _, rfl, ok.sub ci _ _ ha, ?_⟩
      have := congrArg List.length hk
      rw [List.length_map, List.length_map] at this
      rw [← this]
      exact ans (B := B) ok q fun _ => .int _
  · split at e
    · rename_i hl
      cases e
      obtain ⟨v, rfl, k⟩ := one_of h
      rw [str_of k]
      exact .inl ⟨_, _, rfl, ⟨Nat.le_trans hl line_ok, rfl⟩, ans (B := B) ok q fun _ => .int _⟩
    · cases e
  · cases e
def rSumD (K : PySem.W.Frag) : List V → Hp → VK → Prop := fun xs H Q => rSum K xs H Q ∨ rSumT K xs H Q
theorem cr_sumD (hc : X.calm = true) : CallR X (.builtin "sum") (rSumD X.K) := (cr_sum hc).or (cr_sumT hc)
theorem s_sum : CallS S (rSumD S.K) sumB ci .clean := by
  intro B g H j ds d vs Q ok h e q
  unfold sumB at e
  split at e
  · split at e
    · rename_i ns hn
      cases e
      obtain rfl := ints?_some hn
      obtain ⟨v, rfl, k⟩ := one_of h
      obtain ⟨a, vs, rfl, ha, ra⟩ := lst_of k
      obtain rfl := ra.of_ints
      exact .inl ⟨a, ns, rfl, .of (ok.sub ci _ _ ha), ans (B := B) ok q fun _ => .int _⟩
    · cases e
  · split at e
    · rename_i ns hn
      cases e
      obtain rfl := ints?_some hn
      obtain ⟨v, rfl, k⟩ := one_of h
      obtain ⟨a, vs, rfl, ha, ra⟩ := tup_of k
      obtain rfl := ra.of_ints
      exact .inr ⟨a, ns, rfl, sqT_same (ok.sub ci) ha.t, ans (B := B) ok q fun _ => .int _⟩
    · cases e
  · cases e
theorem s_tuple : CallS S (fun xs H Q => ∃ p ys, xs = [.ref p] ∧ ((SqL S.K H p ys ∧ NewT H ys Q) ∨ (SqT S.K H p ys ∧ Q (.ref p) H))) tupleB ci (ofB ci) := by
  intro B g H j ds d vs Q ok h e q
  unfold tupleB at e
  split at e
  · cases e
    obtain ⟨v, rfl, k⟩ := one_of h
    obtain ⟨a, vs, rfl, ha, ra⟩ := lst_of k
    exact ⟨a, vs, rfl, .inl ⟨.of (ok.sub ci _ _ ha), ansT (B := B) ok q ra⟩⟩
  · cases e
    obtain ⟨v, rfl, k⟩ := one_of h
    obtain ⟨a, vs, rfl, ha, ra⟩ := tup_of k
    exact ⟨a, vs, rfl, .inr ⟨sqT_same (ok.sub ci) ha.t, ansP (B := B) ok q k⟩⟩
  · cases e
theorem s_list : CallS S (fun xs H Q => ∃ p ys, xs = [.ref p] ∧ (SqL S.K H p ys ∨ SqT S.K H p ys) ∧ ∀ l, H l = none → Q (.ref l) (upd H l (.lst ys))) listB ci (ofL ci) := by
  intro B g H j ds d vs Q ok h e q
  unfold listB at e
  split at e
  · cases e
    obtain ⟨v, rfl, k⟩ := one_of h
    obtain ⟨a, vs, rfl, ha, ra⟩ := lst_of k
    exact ⟨a, vs, rfl, .inl (.of (ok.sub ci _ _ ha)), fun l nl => ansL (B := B) ok q ra nl⟩
  · cases e
    obtain ⟨v, rfl, k⟩ := one_of h
    obtain ⟨a, vs, rfl, ha, ra⟩ := tup_of k
    exact ⟨a, vs, rfl, .inr (sqT_same (ok.sub ci) ha.t), fun l nl => ansL (B := B) ok q ra nl⟩
  · cases e
theorem s_abs : CallS S (fun xs H Q => ∃ i, xs = [.int i] ∧ Q (.int (if i < 0 then -i else i)) H) absB ci .clean := by
  intro B g H j ds d vs Q ok h e q
  unfold absB at e
  split at e
  · cases e
    obtain ⟨v, rfl, k⟩ := one_of h
    rw [int_of k]
    exact ⟨_, rfl, ans (B := B) ok q fun _ => .int _⟩
  · cases e
def rMaxD (K : PySem.W.Frag) : List V → Hp → VK → Prop := fun xs H Q => (∃ i j, xs = [.int i, .int j] ∧ Q (.int (if j > i then j else i)) H) ∨ rMax K xs H Q
def rMinD (K : PySem.W.Frag) : List V → Hp → VK → Prop := fun xs H Q => (∃ i j, xs = [.int i, .int j] ∧ Q (.int (if j < i then j else i)) H) ∨ rMin K xs H Q
theorem cr_maxD (hc : X.calm = true) : CallR X (.builtin "max") (rMaxD X.K) := (call_max2 hc).or (cr_max hc)
theorem cr_minD (hc : X.calm = true) : CallR X (.builtin "min") (rMinD X.K) := (call_min2 hc).or (cr_min hc)
theorem s_max : CallS S (rMaxD S.K) maxB ci .clean := by
  intro B g H j ds d vs Q ok h e q
  unfold maxB at e
  split at e
  · cases e
    obtain ⟨v, v', rfl, k, k'⟩ := two_of h
    rw [int_of k, int_of k']
    exact .inl ⟨_, _, rfl, ans (B := B) ok q fun _ => .int _⟩
  · split at e
    · rename_i a r hn
      cases e
      obtain rfl := ints?_some hn
      obtain ⟨v, rfl, k⟩ := one_of h
      obtain ⟨p, vs, rfl, ha, ra⟩ := lst_of k
      obtain rfl := ra.of_ints
      obtain ⟨m1, m2⟩ := maxL_spec r a
      refine .inr ⟨p, a :: r, rfl, .of (ok.sub ci _ _ ha), by simp, fun m hm hle => ?_⟩
      obtain rfl : m = maxL a r := Int.le_antisymm (m2 m hm) (hle _ m1)
      exact ans (B := B) ok q fun _ => .int _
    · cases e
  · cases e
theorem s_min : CallS S (rMinD S.K) minB ci .clean := by
  intro B g H j ds d vs Q ok h e q
  unfold minB at e
  split at e
  · cases e
    obtain ⟨v, v', rfl, k, k'⟩ := two_of h
    rw [int_of k, int_of k']
    exact .inl ⟨_, _, rfl, ans (B := B) ok q fun _ => .int _⟩
  · split at e
    · rename_i a r hn
      cases e
      obtain rfl := ints?_some hn
      obtain ⟨v, rfl, k⟩ := one_of h
      obtain ⟨p, vs, rfl, ha, ra⟩ := lst_of k
      obtain rfl := ra.of_ints
      obtain ⟨m1, m2⟩ := minL_spec r a
      refine .inr ⟨p, a :: r, rfl, .of (ok.sub ci _ _ ha), by simp, fun m hm hle => ?_⟩
      obtain rfl : m = minL a r := Int.le_antisymm (hle _ m1) (m2 m hm)
      exact ans (B := B) ok q fun _ => .int _
    · cases e
  · cases e
theorem s_int : CallS S (fun xs H Q => (∃ i, xs = [.int i] ∧ Q (.int i) H) ∨ ∃ k, xs = [.bl k] ∧ Q (.int (if k then 1 else 0)) H) intB ci .clean := by
  intro B g H j ds d vs Q ok h e q
  unfold intB at e
  split at e
  · cases e
    obtain ⟨v, rfl, k⟩ := one_of h
    rw [int_of k]
    exact .inl ⟨_, rfl, ans (B := B) ok q fun _ => .int _⟩
  · cases e
    obtain ⟨v, rfl, k⟩ := one_of h
    rw [bl_of k]
    exact .inr ⟨_, rfl, ans (B := B) ok q fun _ => .int _⟩
  · cases e
theorem s_str : CallS S (fun xs H Q => ∃ i, xs = [.int i] ∧ i.natAbs.log2 < 1920 ∧ Q (.str (toString i)) H) strB ci .clean := by
  intro B g H j ds d vs Q ok h e q
  unfold strB at e
  split at e
  · split at e
    · rename_i hs
      cases e
      obtain ⟨v, rfl, k⟩ := one_of h
      rw [int_of k]
      exact ⟨_, rfl, Nat.lt_trans (sm_log hs) (by decide), ans (B := B) ok q fun _ => .str _⟩
    · cases e
  · cases e
theorem s_repr : CallS S (rRepr S) reprB ci .clean := by
  intro B g H j ds d vs Q ok h e q
  unfold reprB at e
  split at e
  · split at e
    · rename_i x hx
      cases e
      obtain ⟨v, rfl, k⟩ := one_of h
      exact ⟨_, _, v, x, rfl, ok.sub ci, ok.sm, k, hx, ans (B := B) ok q fun _ => .str _⟩
    · cases e
  · cases e
theorem s_all : CallS S (rAll S.K) allB ci .clean := by
  intro B g H j ds d vs Q ok h e q
  unfold allB at e
  split at e
  · split at e
    · rename_i ns hn
      cases e
      obtain rfl := bls?_some hn
      obtain ⟨v, rfl, k⟩ := one_of h
      obtain ⟨a, vs, rfl, ha, ra⟩ := lst_of k
      obtain rfl := ra.of_bls
      exact ⟨a, ns, rfl, .of (ok.sub ci _ _ ha), ans (B := B) ok q fun _ => .bl _⟩
    · cases e
  · cases e
theorem RpL.ints' {F : Hp} (ns : List Int) : RpL S F (ns.map D.int) (ns.map V.int) := RpL.ints ns
theorem s_sorted : CallS S (rSortedI S.K) sortedB ci .fresh := by
  intro B g H j ds d vs Q ok h e q
  unfold sortedB at e
  split at e
  · split at e
    · rename_i ns hn
      cases e
      obtain rfl := ints?_some hn
      obtain ⟨v, rfl, k⟩ := one_of h
      obtain ⟨a, vs, rfl, ha, ra⟩ := lst_of k
      obtain rfl := ra.of_ints
      refine ⟨a, ns, rfl, .of (ok.sub ci _ _ ha), fun ns' p h1 h2 np => ?_⟩
      obtain rfl := isort_unique h1 h2
      exact ansL (B := B) (k := true) ok q (RpL.ints _) np
    · cases e
  · cases e
end

/-! ### slices -/
def cutD (xs : List D) (lo hi : Option Int) : List D := (xs.drop (HT.sIx xs.length 0 lo)).take (HT.sIx xs.length xs.length hi - HT.sIx xs.length 0 lo)
def sliceD (d : D) (lo hi : Option Int) : Option D := match d with
  | .lst xs => some (.lst (cutD xs lo hi))
  | .tup xs => some (.tup (cutD xs lo hi))
  | .str z => if z.length ≤ LINE then some (.str (cutS z lo hi)) else none
  | _ => none
def sliceL (d : D) (lo hi : Option Int) : Option D := match d with
  | .lst xs => some (.lst (cutD xs lo hi))
  | _ => none
abbrev Pv (J : Type) := Sd → J → (Option Int → J → Prop) → XP J → Prop
class MoP (f : Pv J) : Prop where
  mo : ∀ {m : Sd} {j : J} {P P' : Option Int → J → Prop} {E E' : XP J}, f m j P E → (∀ d j', P d j' → P' d j') → (∀ e m' j', E e m' j' → E' e m' j') → f m j P' E'
def pNone (m : Sd) (j : J) (P : Option Int → J → Prop) (E : XP J) : Prop := P none j
def pSome (f : Ev J) (m : Sd) (j : J) (P : Option Int → J → Prop) (E : XP J) : Prop := f m j (fun d j1 => ∃ i, d = .int i ∧ P (some i) j1) E
def eSl (φ : D → Option Int → Option Int → Option D) (fa : Ev J) (fl fh : Pv J) (m : Sd) (j : J) (P : D → J → Prop) (E : XP J) : Prop :=
  fa m j (fun x j1 => fl m j1 (fun l j2 => fh m j2 (fun u j3 => ∃ z, φ x l u = some z ∧ P z j3) E) E) E
instance : MoP (pNone (J := J)) := ⟨fun p q _ => q _ _ p⟩
instance {f : Ev J} [h : MoE f] : MoP (pSome f) := ⟨fun p q x => h.mo p (fun _ _ ⟨i, e, p⟩ => ⟨i, e, q _ _ p⟩) x⟩
instance {φ : D → Option Int → Option Int → Option D} {fa : Ev J} {fl fh : Pv J} [ha : MoE fa] [hl : MoP fl] [hh : MoP fh] : MoE (eSl φ fa fl fh) :=
  ⟨fun p q x => ha.mo p (fun _ _ p => hl.mo p (fun _ _ p => hh.mo p (fun _ _ ⟨z, e, p⟩ => ⟨z, e, q _ _ p⟩) x) x) x⟩
def revD : D → Option D
  | .lst xs => some (.lst xs.reverse)
  | .tup xs => some (.tup xs.reverse)
  | _ => none
def revL : D → Option D
  | .lst xs => some (.lst xs.reverse)
  | _ => none
section
variable {S : Js J} {B : Bs} {M : Nat → Bool} {W : WX} {X : Cx} {e a b c : Expr} {pos p2 : Pos} {f fa fb fc : Ev J} {ci : Bool} {co : Cl}
def rdP (S : Js J) (B : Bs) (M : Nat → Bool) (W : WX) (f : Pv J) : TO := fun r H Q => ∃ g m j P E, Ok S B g M r H m j ∧ f m j P E ∧ (∀ d j' g' H', P d j' → Le g g' → Ok S B g' M r H' m j' → Q d H') ∧ XOut S B M W g E
theorem PO.imp {o : Option Expr} {t t' : TO} (h : PO X o t) (i : ∀ r H Q, t' r H Q → t r H Q) : PO X o t' := ⟨fun pins s σ H Q I q => h.run pins s σ H Q I (i _ _ _ q)⟩
theorem p_none : PO X none (rdP S B M W pNone) := PO.imp po_none fun r H Q ⟨g, m, j, P, E, ok, hf, q, _⟩ => q _ _ g H hf (Le.refl g) ok
theorem p_some (h : PE X e (rdE S B M W .mix f)) : PO X (some e) (rdP S B M W (pSome f)) := PO.imp (po_some h) fun r H Q ⟨g, m, j, P, E, ok, hf, q, xo⟩ =>
  ⟨g, m, j, _, E, ok, hf, fun d j1 g1 v H1 ⟨i, ei, p⟩ l1 ok1 w => ⟨i, by subst ei; exact int_of w, q _ _ g1 H1 p l1 ok1⟩, xo⟩
def SlS (S : Js J) (r : V → Option Int → Option Int → Hp → VK → Prop) (φ : D → Option Int → Option Int → Option D) (ci : Bool) (co : Cl) : Prop :=
  ∀ (B : Bs) (g : Gh) (H : Hp) (j : J) (d1 d : D) (lo hi : Option Int) (v1 : V) (Q : VK), OkB S B g H j → Rp S (hp ci g) d1 v1 → φ d1 lo hi = some d →
    (∀ g' v H', Le g g' → OkB S B g' H' j → Val S g g' co d v → Q v H') → r v1 lo hi H Q
theorem e_slice {lo hi : Option Expr} {fl fh : Pv J} {r : V → Option Int → Option Int → Hp → VK → Prop} {φ : D → Option Int → Option Int → Option D} (hr : SlR X r) (ho : SlS S r φ ci co) (ha : PE X a (rdE S B M W (ofB ci) fa)) (hl : PO X lo (rdP S B M W fl)) (hh : PO X hi (rdP S B M W fh)) :
    PE X (.Subscript a (.Slice lo hi none p2) pos) (rdE S B M W co (eSl φ fa fl fh)) := PE.imp (pe_slice hr ha hl hh) fun R H Q ⟨g, m, j, P, E, ok, hf, q, xo⟩ =>
  ⟨g, m, j, _, E, ok, hf, fun x j1 g1 v1 H1 h1 l1 ok1 w1 => ⟨g1, m, j1, _, E, ok1, h1, fun l j2 g2 H2 h2 l2 ok2 => ⟨g2, m, j2, _, E, ok2, h2, fun u j3 g3 H3 ⟨z, h4, p⟩ l3 ok3 =>
    ho B g3 H3 _ _ _ _ _ v1 Q ok3.b (rp_hp ((w1.le l2).le l3)) h4 fun g4 v H4 l4 ok4 w4 => q _ _ g4 v H4 p (((l1.trans l2).trans l3).trans l4) ⟨ok4, ok3.s.le l4⟩ (w4.back ((l1.trans l2).trans l3)), xo.le (l1.trans l2).f⟩, xo.le l1.f⟩, xo⟩
theorem RpL.cut {F : Hp} {ds : List D} {vs : List V} (h : RpL S F ds vs) (lo hi : Option Int) : RpL S F (cutD ds lo hi) (cutV vs lo hi) := by
  unfold cutD cutV
  rw [h.length]
  exact (h.drop _).take _
def rSlD (K : PySem.W.Frag) : V → Option Int → Option Int → Hp → VK → Prop := fun x lo hi H Q => rSlL K x lo hi H Q ∨ rSlF K x lo hi H Q ∨ rSlS x lo hi H Q
theorem sl_D : SlR X (rSlD X.K) := sl_list.or (sl_tupF.or sl_str)
theorem cutD_all {xs : List D} {lo hi : Option Int} (h : HT.sIx xs.length 0 lo = 0 ∧ HT.sIx xs.length xs.length hi = xs.length) : cutD xs lo hi = xs := by
  unfold cutD
  rw [h.1, h.2]
  simp
theorem s_slice : SlS S (rSlD S.K) sliceD ci (ofB ci) := by
  intro B g H j d1 d lo hi v1 Q ok h e q
  unfold sliceD at e
  split at e
  · cases e
    obtain ⟨a, vs, rfl, ha, ra⟩ := lst_of h
    exact .inl ⟨a, vs, rfl, .of (ok.sub ci _ _ ha), fun p np => ansF (B := B) ok q (ra.cut lo hi) np⟩
  · cases e
    obtain ⟨a, vs, rfl, ha, ra⟩ := tup_of h
    refine .inr (.inl ⟨a, vs, rfl, sqT_same (ok.sub ci) ha.t, fun z => ?_, fun z => ansT (B := B) ok q (ra.cut lo hi)⟩)
    rw [← ra.length] at z
    rw [cutD_all z] at q
    exact ansP (B := B) ok q h
  · split at e
    · rename_i hl
      cases e
      rw [str_of h]
      exact .inr (.inr ⟨_, rfl, Nat.le_trans hl line_ok, q g _ H (Le.refl g) ok (by cases ci <;> exact .str _)⟩)
    · cases e
  · cases e
theorem s_sliceL : SlS S (rSlL S.K) sliceL ci (ofL ci) := by
  intro B g H j d1 d lo hi v1 Q ok h e q
  unfold sliceL at e
  split at e
  · cases e
    obtain ⟨a, vs, rfl, ha, ra⟩ := lst_of h
    exact ⟨a, vs, rfl, .of (ok.sub ci _ _ ha), fun p np => ansL (B := B) ok q (ra.cut lo hi) np⟩
  · cases e
/-- e[::-1] of a list or a tuple -/
def tRevS (K : PySem.W.Frag) (te : TE) : TE := fun σ H Q => te σ H fun x H1 => (∃ a xs, x = .ref a ∧ SqL K H1 a xs ∧ ∀ p, H1 p = none → Q (.ref p) (upd H1 p (.lst xs.reverse))) ∨ (∃ a xs, x = .ref a ∧ SqT K H1 a xs ∧ NewT H1 xs.reverse Q)
open PyProof.Rows hiding St in
theorem pe_revS {te : TE} {k : Nat} {p1 p2 p3 : Pos} (he : PE X e te) : PE X (.Subscript e (.Slice none none (some (.UnaryOp .USub (.Constant (.int 1) k p1) p2)) p3) pos) (tRevS X.K te) := by
  refine ⟨fun pins s σ H Q I h => ?_⟩
  refine Subscript_ (thn (he.run pins s σ H _ I h) fun v s1 ⟨x, H1, I1, r1, q1⟩ => ?_)
  have hst : PO X (some (.UnaryOp .USub (.Constant (.int 1) k p1) p2)) (tPart (tUn (rU fun i => .int (-i)) (tC (.int 1)))) := po_some (pe_un un_neg pe_int)
  refine wpAny_Slice (thn (po_none.run pins s1 σ H1 (fun o H2 => o = none ∧ H2 = H1) I1 ⟨rfl, rfl⟩) fun vl s2 ⟨l, H2, I2, pl, el, e2⟩ => ?_)
  subst el e2
  refine thn (po_none.run pins s2 σ H2 (fun o H3 => o = none ∧ H3 = H2) I2 ⟨rfl, rfl⟩) fun vu s3 ⟨u, H3, I3, pu, eu, e3⟩ => ?_
  subst eu e3
  refine thn (hst.run pins s3 σ H3 (fun o H4 => o = some (-1) ∧ H4 = H3) I3 ⟨1, rfl, -1, rfl, rfl, rfl⟩) fun vs s4 ⟨o, H4, I4, ps, eo, e4⟩ => ?_
  subst eo e4
  have I5 : Inv X pins σ H4 { s4 with heap := s4.heap.push { cls := .type "slice", data := .fields #[vl, vu, vs] } } := I4.kept (t' := s4.toks) fun b ob q => Heap.get?_push_of_some _ q
  rcases q1 with ⟨a, xs, ex, hx, q⟩ | ⟨a, xs, ex, hx, q⟩
  · subst ex
    cases r1
    obtain ⟨its, r, ht, hz⟩ := I5.list hx
    have hlen := r.length
    show wpAny (model X.prog X.w) X.A (subscriptTail e (.Slice none none (some (.UnaryOp .USub (.Constant (.int 1) k p1) p2)) p3) (.ref a) (.ref s4.heap.objs.size)) (EP X pins σ Q) X.xe { s4 with heap := s4.heap.push { cls := .type "slice", data := .fields #[vl, vu, vs] } }
    refine tail_any (ops := [.ref a, .ref s4.heap.objs.size]) ht.isList.typeIs (PySem.slot_list_getitem.lookup) ?_ (by with_unfolding_all rfl)
    refine wpAny_getItem_list_slice ht.isList (Heap.IsSliceOf.new _ vl vu vs) pl pu ps (by decide) ?_ (by rw [List.size_toArray]; omega)
    rw [PySem.W.krv_pick]
    refine ⟨.ref _, _, I5.laid (t' := s4.toks) (o := .lst xs.reverse) (fun b ob q => Heap.get?_push_of_some _ q) (Nat.le_refl _) ?_, rfl, q _ (I5.hok.fresh (Nat.le_refl _))⟩
    exact ⟨by rw [List.length_reverse]; exact hz, _, 0, r.reverse, Heap.get?_push_size _ rfl⟩
  · subst ex
    cases r1
    obtain ⟨its, r, ht, hz⟩ := I5.tuple hx
    have hlen := r.length
    show wpAny (model X.prog X.w) X.A (subscriptTail e (.Slice none none (some (.UnaryOp .USub (.Constant (.int 1) k p1) p2)) p3) (.ref a) (.ref s4.heap.objs.size)) (EP X pins σ Q) X.xe { s4 with heap := s4.heap.push { cls := .type "slice", data := .fields #[vl, vu, vs] } }
    refine tail_any (ops := [.ref a, .ref s4.heap.objs.size]) ht.typeIs (PyProof.Rows.slot_tuple_getitem.lookup) ?_ (by with_unfolding_all rfl)
    refine HT.getItem_tuple_rev ht (Heap.IsSliceOf.new _ vl vu vs) pl pu ps ?_ (by rw [List.size_toArray]; omega)
    refine ⟨.ref _, _, I5.laid (t' := s4.toks) (o := .frz { cls := .type "tuple", data := .seq its.reverse.toArray } (.tup xs.reverse)) (fun b ob q => Heap.get?_push_of_some _ q) (Nat.le_refl _) ?_, rfl, q _ _ (I5.hok.fresh (Nat.le_refl _)) rfl⟩
    exact ⟨Heap.get?_push_size _ rfl, by rw [List.length_reverse]; exact hz, its.reverse, r.reverse, IsTup.new _ _⟩
theorem e_rev {k : Nat} {p1 p2 p3 : Pos} (hK : X.K = S.K) (ha : PE X a (rdE S B M W (ofB ci) fa)) : PE X (.Subscript a (.Slice none none (some (.UnaryOp .USub (.Constant (.int 1) k p1) p2)) p3) pos) (rdE S B M W (ofB ci) (eUn revD fa)) :=
  PE.imp (pe_revS ha) fun R H Q ⟨g, m, j, P, E, ok, hf, q, xo⟩ => by
    refine ⟨g, m, j, _, E, ok, hf, fun x j' g1 v1 H1 ⟨z, h3, p⟩ l1 ok1 w1 => ?_, xo⟩
    unfold revD at h3
    split at h3
    · cases h3
      obtain ⟨a, vs, rfl, ha, ra⟩ := lst_of (rp_hp w1)
      exact .inl ⟨a, vs, rfl, .of (ok1.b.sub ci _ _ ha), fun _ np => ansF (B := B) ok1.b (fun g3 v H3 l3 ok3 w3 => q _ _ g3 v H3 p (l1.trans l3) ⟨ok3, ok1.s.le l3⟩ (w3.back l1)) ra.reverse np⟩
    · cases h3
      obtain ⟨a, vs, rfl, ha, ra⟩ := tup_of (rp_hp w1)
      exact .inr ⟨a, vs, rfl, by rw [hK]; exact sqT_same (ok1.b.sub ci) ha.t, ansT (B := B) ok1.b (fun g3 v H3 l3 ok3 w3 => q _ _ g3 v H3 p (l1.trans l3) ⟨ok3, ok1.s.le l3⟩ (w3.back l1)) ra.reverse⟩
    · cases h3
theorem e_revL {k : Nat} {p1 p2 p3 : Pos} (ha : PE X a (rdE S B M W (ofB ci) fa)) : PE X (.Subscript a (.Slice none none (some (.UnaryOp .USub (.Constant (.int 1) k p1) p2)) p3) pos) (rdE S B M W (ofL ci) (eUn revL fa)) :=
  PE.imp (pe_revL ha) fun R H Q ⟨g, m, j, P, E, ok, hf, q, xo⟩ => by
    refine ⟨g, m, j, _, E, ok, hf, fun x j' g1 v1 H1 ⟨z, h3, p⟩ l1 ok1 w1 => ?_, xo⟩
    unfold revL at h3
    split at h3
    · cases h3
      obtain ⟨a, vs, rfl, ha, ra⟩ := lst_of (rp_hp w1)
      exact ⟨a, vs, rfl, .of (ok1.b.sub ci _ _ ha), fun _ np => ansL (B := B) ok1.b (fun g3 v H3 l3 ok3 w3 => q _ _ g3 v H3 p (l1.trans l3) ⟨ok3, ok1.s.le l3⟩ (w3.back l1)) ra.reverse np⟩
    · cases h3
end
end Mp

/-! Mp5: truth, tests, what is walked, targets, comprehensions. -/
namespace Mp
open PySem PySem.Spec L2
variable {J : Type}

/-! ### truth -/
def truD : D → Option Bool
  | .non => some false
  | .bl b => some b
  | .int i => some (i != 0)
  | .str x => if x.length ≤ LINE then some ((x.length : Int) != 0) else none
  | .tup xs => some (!xs.isEmpty)
  | .lst xs => some (!xs.isEmpty)
  | .dct xs => some (!xs.isEmpty)
  | _ => none
section
variable {S : Js J} {B : Bs} {M : Nat → Bool} {W : WX} {X : Cx} {e a b c : Expr} {es rest : List Expr} {pos p : Pos} {f fa fb fc : Ev J} {ta tb : Tv J}
theorem RpL.isEmpty {F : Hp} {ds : List D} {vs : List V} (h : RpL S F ds vs) : (!ds.isEmpty) = !vs.isEmpty := by cases h <;> rfl
theorem tru_of {F H : Hp} {d : D} {v : V} {k : Bool} (h : Rp S F d v) (fh : Same F H) (e : truD d = some k) : TruV S.K v H k := by
  cases h with
  | non => cases e; rfl
  | bl b => cases e; rfl
  | int i => cases e; rfl
  | str x =>
    have e : (if x.length ≤ LINE then some ((x.length : Int) != 0) else none) = some k := e
    split at e
    · rename_i hl
      cases e; exact ⟨Nat.le_trans hl line_ok, rfl⟩
    · cases e
  | tup h1 h2 => cases e; exact .inr (.inl ⟨_, sqT_same fh h1.t, h2.isEmpty⟩)
  | lst h1 h2 => cases e; exact .inl ⟨_, .of (fh _ _ h1), h2.isEmpty⟩
  | dct h1 h2 h3 =>
    cases e
    refine .inr (.inr ⟨_, fh _ _ h1, ?_⟩)
    rename_i kds kvs
    have h4 : kds.length = kvs.length := by simpa using congrArg List.length h2
    cases kds <;> cases kvs <;> first | rfl | cases h4
  | jar => cases e
  | obj _ => cases e
  | ins _ _ _ => cases e

/-! ### tests -/
def tOf (fa : Ev J) (m : Sd) (j : J) (P : Bool → J → Prop) (E : XP J) : Prop := fa m j (fun x j1 => ∃ b, truD x = some b ∧ P b j1) E
def tBl (fa : Ev J) (m : Sd) (j : J) (P : Bool → J → Prop) (E : XP J) : Prop := fa m j (fun x j1 => ∃ b, x = .bl b ∧ P b j1) E
def tAndD (ta tb : Tv J) (m : Sd) (j : J) (P : Bool → J → Prop) (E : XP J) : Prop := ta m j (fun b j1 => if b = true then tb m j1 P E else P false j1) E
def tOrD (ta tb : Tv J) (m : Sd) (j : J) (P : Bool → J → Prop) (E : XP J) : Prop := ta m j (fun b j1 => if b = true then P true j1 else tb m j1 P E) E
def tNotD (ta : Tv J) (m : Sd) (j : J) (P : Bool → J → Prop) (E : XP J) : Prop := ta m j (fun b j1 => P (!b) j1) E
def tYesD (m : Sd) (j : J) (P : Bool → J → Prop) (E : XP J) : Prop := P true j
/-- a chain of two comparisons -/
def eChain (φ ψ : D → D → Option D) (fa fb fc : Ev J) (m : Sd) (j : J) (P : D → J → Prop) (E : XP J) : Prop :=
  fa m j (fun x j1 => fb m j1 (fun y j2 => ∃ b, φ x y = some (.bl b) ∧ if b = true then fc m j2 (fun z j3 => ∃ d, ψ y z = some d ∧ P d j3) E else P (.bl false) j2) E) E
def eAnd (fa fb : Ev J) (m : Sd) (j : J) (P : D → J → Prop) (E : XP J) : Prop := fa m j (fun x j1 => ∃ b, truD x = some b ∧ if b = true then fb m j1 P E else P x j1) E
def eOr (fa fb : Ev J) (m : Sd) (j : J) (P : D → J → Prop) (E : XP J) : Prop := fa m j (fun x j1 => ∃ b, truD x = some b ∧ if b = true then P x j1 else fb m j1 P E) E
def eNot (fa : Ev J) (m : Sd) (j : J) (P : D → J → Prop) (E : XP J) : Prop := fa m j (fun x j1 => ∃ b, truD x = some b ∧ P (.bl (!b)) j1) E
def eIf (tc : Tv J) (fa fb : Ev J) (m : Sd) (j : J) (P : D → J → Prop) (E : XP J) : Prop := tc m j (fun b j1 => if b = true then fa m j1 P E else fb m j1 P E) E
theorem ite_mono {b : Bool} {p q p' q' : Prop} (h : if b = true then p else q) (hp : p → p') (hq : q → q') : if b = true then p' else q' := by
  cases b
  · exact hq h
  · exact hp h
section
variable {φ ψ : D → D → Option D} {f1 f2 f3 : Ev J} {t1 t2 : Tv J}
instance [ha : MoE f1] : MoT (tOf f1) := ⟨fun h q x => ha.mo h (fun _ _ ⟨b, e, p⟩ => ⟨b, e, q _ _ p⟩) x⟩
instance [ha : MoE f1] : MoT (tBl f1) := ⟨fun h q x => ha.mo h (fun _ _ ⟨b, e, p⟩ => ⟨b, e, q _ _ p⟩) x⟩
instance [ha : MoT t1] [hb : MoT t2] : MoT (tAndD t1 t2) := ⟨fun h q x => ha.mo h (fun _ _ p => ite_mono p (fun p => hb.mo p q x) (q _ _)) x⟩
instance [ha : MoT t1] [hb : MoT t2] : MoT (tOrD t1 t2) := ⟨fun h q x => ha.mo h (fun _ _ p => ite_mono p (q _ _) (fun p => hb.mo p q x)) x⟩
instance [ha : MoT t1] : MoT (tNotD t1) := ⟨fun h q x => ha.mo h (fun _ _ p => q _ _ p) x⟩
instance : MoT (tYesD (J := J)) := ⟨fun h q x => q _ _ h⟩
instance [ha : MoE f1] [hb : MoE f2] [hc : MoE f3] : MoE (eChain φ ψ f1 f2 f3) := ⟨fun h q x => ha.mo h (fun _ _ p => hb.mo p (fun _ _ ⟨b, e, p⟩ => ⟨b, e, ite_mono p (fun p => hc.mo p (fun _ _ ⟨d, e, p⟩ => ⟨d, e, q _ _ p⟩) x) (q _ _)⟩) x) x⟩
instance [ha : MoE f1] [hb : MoE f2] : MoE (eAnd f1 f2) := ⟨fun h q x => ha.mo h (fun _ _ ⟨b, e, p⟩ => ⟨b, e, ite_mono p (fun p => hb.mo p q x) (q _ _)⟩) x⟩
instance [ha : MoE f1] [hb : MoE f2] : MoE (eOr f1 f2) := ⟨fun h q x => ha.mo h (fun _ _ ⟨b, e, p⟩ => ⟨b, e, ite_mono p (q _ _) (fun p => hb.mo p q x)⟩) x⟩
instance [ha : MoE f1] : MoE (eNot f1) := ⟨fun h q x => ha.mo h (fun _ _ ⟨b, e, p⟩ => ⟨b, e, q _ _ p⟩) x⟩
instance [hc : MoT t1] [ha : MoE f1] [hb : MoE f2] : MoE (eIf t1 f1 f2) := ⟨fun h q x => hc.mo h (fun _ _ p => ite_mono p (fun p => ha.mo p q x) (fun p => hb.mo p q x)) x⟩
end
theorem t_truth (hK : X.K = S.K) (h : PE X a (rdE S B M W .mix fa)) (he : ∀ whole, isTrue a X.env whole = (do let v ← whole; standAt a.pos; holding [v] (truthy v))) : PT X a (rdT S B M W (tOf fa)) :=
  PT.imp (pt_truth h he) fun r H Q ⟨g, m, j, P, E, ok, hf, q, xo⟩ =>
    ⟨g, m, j, _, E, ok, hf, fun d j' g1 v H1 ⟨b, h2, p⟩ l1 ok1 w => ⟨_, by rw [hK]; exact tru_of w ok1.b.gh h2, q _ _ g1 H1 p l1 ok1⟩, xo⟩
/-- a test whose reading is that of a value True or False -/
theorem t_of {t : TE} (h : PT X a (tTest t)) (i : ∀ r H Q, rdE S B M W .mix fa r H Q → t r H Q) : PT X a (rdT S B M W (tBl fa)) :=
  PT.imp h fun r H Q ⟨g, m, j, P, E, ok, hf, q, xo⟩ =>
    i _ _ _ ⟨g, m, j, _, E, ok, hf, fun d j' g1 v H1 ⟨b, e, p⟩ l1 ok1 w => ⟨b, by subst e; exact bl_of w, q _ _ g1 H1 p l1 ok1⟩, xo⟩
theorem rdE_mix {k : Cl} {R : St} {H : Hp} {Q : VK} (h : rdE S B M W .mix f R H Q) : rdE S B M W k f R H Q := by
  obtain ⟨g, m, j, P, E, ok, hf, q, xo⟩ := h
  exact ⟨g, m, j, P, E, ok, hf, fun d j' g' v H' p le ok' w => q d j' g' v H' p le ok' (w.mix ok'.b.fg), xo⟩
theorem t_cmp {op : CmpOp} {r : R2} {φ : D → D → Option D} {ci : Bool} {co : Cl} (hr : OpR X (compareOp op) r) (ho : OpS S r φ ci co) (ha : PE X a (rdE S B M W (ofB ci) fa)) (hb : PE X b (rdE S B M W (ofB ci) fb)) (hm : behindInMarks op b = false) :
    PT X (.Compare a [op] [b] pos) (rdT S B M W (tBl (eOp φ fa fb))) := t_of (pt_cmpR hr ha hb hm) fun _ _ _ h => tOp_rd ho (rdE_mix h)
theorem t_and1 (ha : PT X a (rdT S B M W ta)) : PW X (.BoolOp .And [a] pos) (rdT S B M W ta) := pw_and1 ha
theorem t_or1 (ha : PT X a (rdT S B M W ta)) : PW X (.BoolOp .Or [a] pos) (rdT S B M W ta) := pw_or1 ha
theorem t_and (ha : PT X a (rdT S B M W ta)) (hb : PW X (.BoolOp .And (b :: rest) pos) (rdT S B M W tb)) : PW X (.BoolOp .And (a :: b :: rest) pos) (rdT S B M W (tAndD ta tb)) :=
  PW.imp (pw_and ha hb) fun r H Q ⟨g, m, j, P, E, ok, hf, q, xo⟩ =>
    ⟨g, m, j, _, E, ok, hf, fun d j1 g1 H1 p l1 ok1 => ite_mono p (fun p => ⟨g1, m, _, _, E, ok1, p, fun d j2 g2 H2 p l2 ok2 => q _ _ g2 H2 p (l1.trans l2) ok2, xo.le l1.f⟩) (fun p => q _ _ g1 H1 p l1 ok1), xo⟩
theorem t_or (ha : PT X a (rdT S B M W ta)) (hb : PW X (.BoolOp .Or (b :: rest) pos) (rdT S B M W tb)) : PW X (.BoolOp .Or (a :: b :: rest) pos) (rdT S B M W (tOrD ta tb)) :=
  PW.imp (pw_or ha hb) fun r H Q ⟨g, m, j, P, E, ok, hf, q, xo⟩ =>
    ⟨g, m, j, _, E, ok, hf, fun d j1 g1 H1 p l1 ok1 => ite_mono p (fun p => q _ _ g1 H1 p l1 ok1) (fun p => ⟨g1, m, _, _, E, ok1, p, fun d j2 g2 H2 p l2 ok2 => q _ _ g2 H2 p (l1.trans l2) ok2, xo.le l1.f⟩), xo⟩
theorem t_not (ha : PT X a (rdT S B M W ta)) : PT X (.UnaryOp .Not a pos) (rdT S B M W (tNotD ta)) :=
  PT.imp (pt_not ha) fun r H Q ⟨g, m, j, P, E, ok, hf, q, xo⟩ => ⟨g, m, j, _, E, ok, hf, fun d j1 g1 H1 p l1 ok1 => q _ _ g1 H1 p l1 ok1, xo⟩
theorem tChain_rd {r r' : R2} {φ ψ : D → D → Option D} {ci : Bool} (ho : OpS S r φ ci .clean) (ho' : OpS S r' ψ ci .clean) {R : St} {H : Hp} {Q : VK} (h : rdE S B M W .clean (eChain φ ψ fa fb fc) R H Q) :
    tChain r r' (rdE S B M W (ofB ci) fa) (rdE S B M W (ofB ci) fb) (rdE S B M W (ofB ci) fc) R H Q := by
  obtain ⟨g, m, j, P, E, ok, hf, q, xo⟩ := h
  refine ⟨g, m, j, _, E, ok, hf, fun x j1 g1 v1 H1 h1 l1 ok1 w1 => ⟨g1, m, _, _, E, ok1, h1, fun y j2 g2 v2 H2 ⟨b, h3, h4⟩ l2 ok2 w2 => ?_, xo.le l1.f⟩, xo⟩
  refine ho B g2 H2 j2 x y _ v1 v2 _ ok2.b (rp_hp (w1.le l2)) (rp_hp w2) h3 fun g3 v H3 l3 ok3 w3 => ⟨b, bl_of w3, ?_⟩
  refine ite_mono h4 (fun h4 => ?_) (fun h4 => ?_)
  · refine ⟨g3, m, _, _, E, ⟨ok3, ok2.s.le l3⟩, h4, fun z j4 g4 v4 H4 ⟨d, h5, p⟩ l4 ok4 w4 => ?_, xo.le ((l1.trans l2).trans l3).f⟩
    exact ho' B g4 H4 _ y z _ v2 v4 Q ok4.b (rp_hp ((w2.le l3).le l4)) (rp_hp w4) h5 fun g5 v5 H5 l5 ok5 w5 => q _ _ g5 v5 H5 p ((((l1.trans l2).trans l3).trans l4).trans l5) ⟨ok5, ok4.s.le l5⟩ w5
  · exact q _ _ g3 _ H3 h4 ((l1.trans l2).trans l3) ⟨ok3, ok2.s.le l3⟩ (.bl _)
theorem e_chain {op op' : CmpOp} {r r' : R2} {φ ψ : D → D → Option D} {ci : Bool} (hr : OpR X (compareOp op) r) (hr' : OpR X (compareOp op') r') (ho : OpS S r φ ci .clean) (ho' : OpS S r' ψ ci .clean)
    (ha : PE X a (rdE S B M W (ofB ci) fa)) (hb : PE X b (rdE S B M W (ofB ci) fb)) (hc : PE X c (rdE S B M W (ofB ci) fc)) (hm : lastMarks [op, op'] [b, c] = false) :
    PE X (.Compare a [op, op'] [b, c] pos) (rdE S B M W .clean (eChain φ ψ fa fb fc)) := PE.imp (pe_chain hr hr' ha hb hc hm) fun _ _ _ h => tChain_rd ho ho' h
theorem t_chain {op op' : CmpOp} {r r' : R2} {φ ψ : D → D → Option D} {ci : Bool} (hr : OpR X (compareOp op) r) (hr' : OpR X (compareOp op') r') (ho : OpS S r φ ci .clean) (ho' : OpS S r' ψ ci .clean)
    (ha : PE X a (rdE S B M W (ofB ci) fa)) (hb : PE X b (rdE S B M W (ofB ci) fb)) (hc : PE X c (rdE S B M W (ofB ci) fc)) (hm : lastMarks [op, op'] [b, c] = false) :
    PT X (.Compare a [op, op'] [b, c] pos) (rdT S B M W (tBl (eChain φ ψ fa fb fc))) := t_of (pt_chain hr hr' ha hb hc hm) fun _ _ _ h => tChain_rd ho ho' (rdE_mix h)

/-! ### and, or, not, if .. else as values -/
theorem e_one {op : BoolOp} {k : Cl} (h : PE X a (rdE S B M W k fa)) : PE X (.BoolOp op [a] pos) (rdE S B M W k fa) := pe_one h
theorem e_and {k : Bool} (hK : X.K = S.K) (ha : PE X a (rdE S B M W (ofB k) fa)) (hb : PE X (.BoolOp .And (b :: rest) pos) (rdE S B M W (ofB k) fb)) : PE X (.BoolOp .And (a :: b :: rest) pos) (rdE S B M W (ofB k) (eAnd fa fb)) :=
  PE.imp (pe_andT ha hb) fun r H Q ⟨g, m, j, P, E, ok, hf, q, xo⟩ =>
    ⟨g, m, j, _, E, ok, hf, fun x j1 g1 v1 H1 ⟨b, h2, p⟩ l1 ok1 w1 => ⟨b, by rw [hK]; exact tru_of (rp_hp w1) (ok1.b.sub k) h2,
      ite_mono p (fun p => ⟨g1, m, _, _, E, ok1, p, fun d j2 g2 v2 H2 p l2 ok2 w2 => q _ _ g2 v2 H2 p (l1.trans l2) ok2 (w2.back l1), xo.le l1.f⟩) (fun p => q _ _ g1 v1 H1 p l1 ok1 w1)⟩, xo⟩
theorem e_or {k : Bool} (hK : X.K = S.K) (ha : PE X a (rdE S B M W (ofB k) fa)) (hb : PE X (.BoolOp .Or (b :: rest) pos) (rdE S B M W (ofB k) fb)) : PE X (.BoolOp .Or (a :: b :: rest) pos) (rdE S B M W (ofB k) (eOr fa fb)) :=
  PE.imp (pe_orT ha hb) fun r H Q ⟨g, m, j, P, E, ok, hf, q, xo⟩ =>
    ⟨g, m, j, _, E, ok, hf, fun x j1 g1 v1 H1 ⟨b, h2, p⟩ l1 ok1 w1 => ⟨b, by rw [hK]; exact tru_of (rp_hp w1) (ok1.b.sub k) h2,
      ite_mono p (fun p => q _ _ g1 v1 H1 p l1 ok1 w1) (fun p => ⟨g1, m, _, _, E, ok1, p, fun d j2 g2 v2 H2 p l2 ok2 w2 => q _ _ g2 v2 H2 p (l1.trans l2) ok2 (w2.back l1), xo.le l1.f⟩)⟩, xo⟩
theorem e_not (hK : X.K = S.K) (ha : PE X a (rdE S B M W .mix fa)) : PE X (.UnaryOp .Not a pos) (rdE S B M W .clean (eNot fa)) :=
  PE.imp (pe_notT ha) fun r H Q ⟨g, m, j, P, E, ok, hf, q, xo⟩ =>
    ⟨g, m, j, _, E, ok, hf, fun x j1 g1 v1 H1 ⟨b, h2, p⟩ l1 ok1 w1 => ⟨_, by rw [hK]; exact tru_of w1 ok1.b.gh h2, q _ _ g1 _ H1 p l1 ok1 (.bl _)⟩, xo⟩
theorem e_if {k : Cl} {tc : Tv J} (hc : PT X c (rdT S B M W tc)) (ha : PE X a (rdE S B M W k fa)) (hb : PE X b (rdE S B M W k fb)) : PE X (.IfExp c a b pos) (rdE S B M W k (eIf tc fa fb)) :=
  PE.imp (pe_ifExp hc ha hb) fun r H Q ⟨g, m, j, P, E, ok, hf, q, xo⟩ =>
    ⟨g, m, j, _, E, ok, hf, fun d j1 g1 H1 p l1 ok1 => ite_mono p (fun p => ⟨g1, m, _, _, E, ok1, p, fun d j2 g2 v2 H2 p l2 ok2 w2 => q _ _ g2 v2 H2 p (l1.trans l2) ok2 (w2.back l1), xo.le l1.f⟩)
      (fun p => ⟨g1, m, _, _, E, ok1, p, fun d j2 g2 v2 H2 p l2 ok2 w2 => q _ _ g2 v2 H2 p (l1.trans l2) ok2 (w2.back l1), xo.le l1.f⟩), xo⟩
end

/-! ### what is walked -/
abbrev Iv (J : Type) := Av J
/-- an item as it comes: what is frozen, or a new tuple of such (to be unpacked, or kept) -/
def YD (S : Js J) (g : Gh) (w : Bool) (d : D) (H : Hp) (x : V) (H' : Hp) : Prop :=
  (H' = H ∧ Rp S g.F d x) ∨ (w = true ∧ ∃ T vs es, x = .ref T ∧ H T = none ∧ H' = upd H T (.tup vs) ∧ d = .tup es ∧ RpL S g.F es vs) ∨
    ∃ T o vs es, x = .ref T ∧ H T = none ∧ o.dict = none ∧ H' = upd H T (.frz o (.tup vs)) ∧ d = .tup es ∧ RpL S g.F es vs
def WalkD (S : Js J) (Jt : It) (ds : List D) (c w : Bool) (g : Gh) : Prop := Walk Jt ds.length (fun H => Same (hp c g) H) (fun i H x H' => ∃ d, ds[i]? = some d ∧ YD S g w d H x H')
def rdI (S : Js J) (B : Bs) (M : Nat → Bool) (W : WX) (c w : Bool) (f : Iv J) : TI := fun r H R => ∃ g m j P E, Ok S B g M r H m j ∧ f m j P E ∧ (∀ ds j' g' H' Jt, P ds j' → Le g g' → Ok S B g' M r H' m j' → WalkD S Jt ds c w g' → R Jt H') ∧ XOut S B M W g E
def seqL : D → Option (List D)
  | .lst xs => some xs
  | .tup xs => some xs
  | .str z => some (z.cps.toList.map fun c => .str ⟨#[c]⟩)
  | _ => none
def iSeq (f : Ev J) (m : Sd) (j : J) (P : List D → J → Prop) (E : XP J) : Prop := f m j (fun d j1 => ∃ xs, seqL d = some xs ∧ P xs j1) E
def rngD (lo : Int) (n : Nat) : List D := (List.range n).map fun k => .int (lo + (k : Nat))
theorem rngD_length (lo : Int) (n : Nat) : (rngD lo n).length = n := by unfold rngD; simp
theorem rngD_get {lo : Int} {n i : Nat} (h : i < n) : (rngD lo n)[i]? = some (.int (lo + (i : Nat))) := by unfold rngD; simp [h]
def LIM : Int := 2 ^ 61
def iRng1 (f : Ev J) (m : Sd) (j : J) (P : List D → J → Prop) (E : XP J) : Prop := f m j (fun d j1 => ∃ n, d = .int n ∧ -LIM ≤ n ∧ n ≤ LIM ∧ P (rngD 0 n.toNat) j1) E
def iRng2 (f f2 : Ev J) (m : Sd) (j : J) (P : List D → J → Prop) (E : XP J) : Prop :=
  f m j (fun d j1 => f2 m j1 (fun d2 j2 => ∃ a b, d = .int a ∧ d2 = .int b ∧ -LIM ≤ a ∧ a ≤ LIM ∧ -LIM ≤ b ∧ b ≤ LIM ∧ P (rngD a (b - a).toNat) j2) E) E
def enumD (xs : List D) : List D := (xs.zipIdx).map fun p => .tup [.int (p.2 : Nat), p.1]
def iEnm (f : Ev J) (m : Sd) (j : J) (P : List D → J → Prop) (E : XP J) : Prop := f m j (fun d j1 => ∃ xs, d = .lst xs ∧ P (enumD xs) j1) E
def zipD (xs ys : List D) : List D := (xs.zip ys).map fun p => .tup [p.1, p.2]
def zipO : D → D → Option (List D)
  | .lst xs, .lst ys => some (zipD xs ys)
  | .tup xs, .tup ys => some (zipD xs ys)
  | _, _ => none
def iZip (f f2 : Ev J) (m : Sd) (j : J) (P : List D → J → Prop) (E : XP J) : Prop := f m j (fun x j1 => f2 m j1 (fun y j2 => ∃ zs, zipO x y = some zs ∧ P zs j2) E) E
section
variable {f1 f2 : Ev J}
instance [ha : MoE f1] : MoA (iSeq f1) := ⟨fun h q x => ha.mo h (fun _ _ ⟨b, e, p⟩ => ⟨b, e, q _ _ p⟩) x⟩
instance [ha : MoE f1] : MoA (iRng1 f1) := ⟨fun h q x => ha.mo h (fun _ _ ⟨b, e1, e2, e3, p⟩ => ⟨b, e1, e2, e3, q _ _ p⟩) x⟩
instance [ha : MoE f1] [hb : MoE f2] : MoA (iRng2 f1 f2) := ⟨fun h q x => ha.mo h (fun _ _ p => hb.mo p (fun _ _ ⟨a, b, e1, e2, e3, e4, e5, e6, p⟩ => ⟨a, b, e1, e2, e3, e4, e5, e6, q _ _ p⟩) x) x⟩
instance [ha : MoE f1] : MoA (iEnm f1) := ⟨fun h q x => ha.mo h (fun _ _ ⟨b, e, p⟩ => ⟨b, e, q _ _ p⟩) x⟩
instance [ha : MoE f1] [hb : MoE f2] : MoA (iZip f1 f2) := ⟨fun h q x => ha.mo h (fun _ _ p => hb.mo p (fun _ _ ⟨b, e, p⟩ => ⟨b, e, q _ _ p⟩) x) x⟩
end
section
open PyProof.Rows hiding St
variable {X : Cx}
/-- a list, a tuple or a text -/
def iAny (K : PySem.W.Frag) (t : TE) : TI := fun σ H R => t σ H fun v H1 => (∃ a, v = .ref a ∧ (∃ xs, SqL K H1 a xs) ∧ R (Itl K a) H1) ∨ (∃ a, v = .ref a ∧ (∃ xs, SqT K H1 a xs) ∧ R (Itt K a) H1) ∨ ∃ x, v = .str x ∧ R (Its x) H1
theorem pi_any {l tg : Expr} {tl : TE} (hl : PE X l tl) : PI X tg l (iAny X.K tl) := by
  refine ⟨fun pins s σ H R I h => ?_⟩
  refine thn (hl.run pins s σ H _ I h) fun v s1 ⟨x, H1, I1, r1, q1⟩ => ?_
  rcases q1 with ⟨a, e, ⟨xs, hq⟩, q⟩ | ⟨a, e, ⟨xs, hq⟩, q⟩ | ⟨x, ex, q⟩
  · subst e
    cases r1
    obtain ⟨its, rv, p, hz⟩ := I1.list hq
    refine wpAny_pyIter_list p.isList ?_
    exact pi_one (tk := s1.toks) I1 _ (turn_list a _) ⟨_, Heap.get?_push_size _ rfl, rfl, rfl⟩ q
  · subst e
    cases r1
    obtain ⟨its, rv, p, hz⟩ := I1.tuple hq
    refine wpAny_pyIter_tuple (show s1.heap.IsTuple a its.toArray from p) ?_
    exact pi_one (tk := s1.toks) I1 _ (turn_tuple a _) ⟨_, Heap.get?_push_size _ rfl, rfl, rfl⟩ q
  · subst ex
    obtain ⟨t, rfl⟩ := r1
    cases ha : x.cps.all (· < 128)
    · exact wpAny_pyIter_wide ha (pi_one (tk := s1.toks) I1 _ (turn_str _ x t "str_iterator" (.inr rfl)) ⟨_, Heap.get?_push_size _ rfl, rfl, rfl⟩ q)
    · exact wpAny_pyIter_ascii ha (pi_one (tk := s1.toks) I1 _ (turn_str _ x t "str_ascii_iterator" (.inl rfl)) ⟨_, Heap.get?_push_size _ rfl, rfl, rfl⟩ q)
end
section
variable {S : Js J} {B : Bs} {M : Nat → Bool} {W : WX} {X : Cx} {tg e a b c : Expr} {es rest : List Expr} {pos p : Pos} {f fa fb fc : Ev J}
theorem walkD_seq {K : PySem.W.Frag} {p : Addr} {ds : List D} {vs : List V} {k : Bool} {g : Gh} (hK : K = S.K) (h : g.F p = some (.lst vs) ∨ (k = false ∧ g.G p = some (.lst vs))) (fg : Same g.F g.G) (r : RpL S g.F ds vs) : WalkD S (Itl K p) ds k false g := by
  have w := walk_list (K := K) (a := p) (xs := vs)
  rw [← r.length] at w
  refine w.mono (fun H s => .of (s _ _ ?_)) fun i H x H' hi _ ⟨e1, e2⟩ => ?_
  · rcases h with h | ⟨rfl, h⟩
    · cases k
      · exact fg _ _ h
      · exact h
    · exact h
  · obtain ⟨d, h1, h2⟩ := r.get' e2
    exact ⟨d, h1, .inl ⟨e1, h2⟩⟩
theorem i_seq (hK : X.K = S.K) (h : PE X e (rdE S B M W .clean f)) : PI X tg e (rdI S B M W true false (iSeq f)) :=
  PI.imp (pi_any h) fun r H R ⟨g, m, j, P, E, ok, hf, q, xo⟩ => by
    refine ⟨g, m, j, _, E, ok, hf, fun d j1 g1 v H1 hh l1 ok1 w => ?_, xo⟩
    obtain ⟨xs, hx, p⟩ := hh
    unfold seqL at hx
    split at hx
    · cases hx
      obtain ⟨a, vs, rfl, ha, ra⟩ := lst_of w
      exact .inl ⟨a, rfl, ⟨vs, .of ((ok1.b.fg.trans ok1.b.gh) _ _ ha)⟩, q _ _ g1 H1 _ p l1 ok1 (walkD_seq hK (.inl ha) ok1.b.fg ra)⟩
    · cases hx
      obtain ⟨a, vs, rfl, ha, ra⟩ := tup_of w
      refine .inr (.inl ⟨a, rfl, ⟨vs, by rw [hK]; exact sqT_same (ok1.b.fg.trans ok1.b.gh) ha.t⟩, q _ _ g1 H1 _ p l1 ok1 ?_⟩)
      have w := walk_tup (K := X.K) (a := a) (xs := vs)
      rw [← ra.length] at w
      refine w.mono (fun H s => by rw [hK]; exact sqT_same s ha.t) fun i H x H' hi _ ⟨e1, e2⟩ => ?_
      obtain ⟨d, h1, h2⟩ := ra.get' e2
      exact ⟨d, h1, .inl ⟨e1, h2⟩⟩
    · rename_i z
      cases hx
      rw [str_of w]
      refine .inr (.inr ⟨_, rfl, q _ _ g1 H1 _ p l1 ok1 ?_⟩)
      have w := walk_str (z := z)
      have el : (z.cps.toList.map fun c => D.str ⟨#[c]⟩).length = z.cps.size := by simp
      unfold WalkD
      rw [el]
      refine w.mono (fun H s => trivial) fun i H x H' hi _ ⟨e1, c, e2, e3⟩ => ?_
      refine ⟨.str ⟨#[c]⟩, ?_, .inl ⟨e1, by rw [e3]; exact .str _⟩⟩
      rw [List.getElem?_map]
      simp [e2]
    · cases hx
/-- an owned list, walked where it does not change -/
theorem i_own {i : Nat} {x : Str} (hK : X.K = S.K) (hM : M i = true) (hN : X.N[i]? = some x) (hv : Vis X.env.scope x) (hd : (x == ("__debug__" : Str)) = false) (hcd : (x == ("__classdict__" : Str)) = false) : PI X tg (.Name x pos) (rdI S B M W false false (iSeq (eVar i))) :=
  PI.imp (pi_list (pe_var hN hv hd hcd)) fun r H R ⟨g, m, j, P, E, ok, hf, q, xo⟩ => by
    obtain ⟨d, he, ys, hy, p⟩ := hf
    obtain ⟨a, h1, n, ⟨xs, vs, rfl, e2, t⟩ | ⟨kds, kvs, rfl, _⟩⟩ := ok.s.ow i d he hM
    · cases hy
      exact ⟨_, h1, a, rfl, ⟨vs, .of (ok.b.gh _ _ e2)⟩, q _ _ g H _ p (Le.refl g) ok (walkD_seq hK (.inr ⟨rfl, e2⟩) ok.b.fg t)⟩
    · cases hy
theorem walkD_rng {lo : Int} {n : Nat} {g : Gh} {k : Bool} : WalkD S (Itr lo n) (rngD lo n) k false g := by
  unfold WalkD
  rw [rngD_length]
  exact (walk_range (lo := lo) (n := n)).mono (fun _ _ => trivial) fun i H x H' hi _ ⟨e1, e2⟩ => ⟨_, rngD_get hi, .inl ⟨e1, by rw [e2]; exact .int _⟩⟩
theorem i_rng1 (hg : Gl X "range") (hm : X.mg "range" = none) (ha : PE X a (rdE S B M W .mix fa)) (hs : starEach [a] X.env = [(false, eval a X.env)]) : PI X tg (.Call (.Name "range" p) [a] [] pos) (rdI S B M W true false (iRng1 fa)) :=
  PI.imp (pi_range1 hg hm (pa_cons ha pa_nil hs) hs) fun r H R ⟨g, m, j, P, E, ok, hf, q, xo⟩ => by
    have hl : LIM = 2 ^ 61 := rfl
    exact ⟨g, m, j, _, E, ok, hf, fun d j1 g1 v H1 ⟨n, ed, c1, c2, p⟩ l1 ok1 w => ⟨n, by subst ed; rw [int_of w], by omega, by omega, q _ _ g1 H1 _ p l1 ok1 walkD_rng⟩, xo⟩
theorem i_rng2 (hg : Gl X "range") (hm : X.mg "range" = none) (ha : PE X a (rdE S B M W .mix fa)) (hb : PE X b (rdE S B M W .mix fb)) (hs : starEach [a, b] X.env = [(false, eval a X.env), (false, eval b X.env)]) (hs2 : starEach [b] X.env = [(false, eval b X.env)]) :
    PI X tg (.Call (.Name "range" p) [a, b] [] pos) (rdI S B M W true false (iRng2 fa fb)) :=
  PI.imp (pi_range2 hg hm (pa_cons ha (pa_cons hb pa_nil hs2) (by rw [hs, hs2])) hs hs2) fun r H R ⟨g, m, j, P, E, ok, hf, q, xo⟩ => by
    have hl : LIM = 2 ^ 61 := rfl
    exact ⟨g, m, j, _, E, ok, hf, fun d j1 g1 v H1 h1 l1 ok1 w => ⟨g1, m, _, _, E, ok1, h1, fun d2 j2 g2 v2 H2 ⟨n, k, e1, e2, c1, c2, c3, c4, p⟩ l2 ok2 w2 => ⟨n, k, by subst e1 e2; rw [int_of w, int_of w2], ⟨by omega, by omega, by omega, by omega⟩, q _ _ g2 H2 _ p (l1.trans l2) ok2 walkD_rng⟩, xo.le l1.f⟩, xo⟩
theorem enumD_length (xs : List D) : (enumD xs).length = xs.length := by unfold enumD; simp
theorem enumD_get {xs : List D} {i : Nat} {d : D} (h : xs[i]? = some d) : (enumD xs)[i]? = some (.tup [.int (i : Nat), d]) := by
  unfold enumD
  rw [List.getElem?_map, List.getElem?_zipIdx, h]
  simp
theorem i_enum {elts : List Expr} {kk : Nat} {tpos : Pos} (hK : X.K = S.K) (hg : Gl X "enumerate") (hm : X.mg "enumerate" = none) (ha : PE X a (rdE S B M W .clean fa)) (hs : starEach [a] X.env = [(false, eval a X.env)]) :
    PI X (.Tuple elts kk tpos) (.Call (.Name "enumerate" p) [a] [] pos) (rdI S B M W true true (iEnm fa)) :=
  PI.imp (pi_enum hg hm (pa_cons ha pa_nil hs) hs) fun r H R ⟨g, m, j, P, E, ok, hf, q, xo⟩ => by
    refine ⟨g, m, j, _, E, ok, hf, fun d j1 g1 v H1 ⟨xs, ed, p⟩ l1 ok1 w => ?_, xo⟩
    subst ed
    obtain ⟨a, vs, rfl, ha, ra⟩ := lst_of w
    refine ⟨a, vs, rfl, .of ((ok1.b.fg.trans ok1.b.gh) _ _ ha), q _ _ g1 H1 _ p l1 ok1 ?_⟩
    unfold WalkD
    rw [enumD_length, ra.length]
    refine (walk_enum (K := X.K) (a := a) (xs := vs)).mono (fun H s => .of (s _ _ ha)) fun i H x H' hi _ y => ?_
    obtain ⟨T, x1, y1, e1, e2, e3, e4, e5⟩ := y
    obtain ⟨d, h2, h3⟩ := ra.get' e5
    cases e4
    exact ⟨_, enumD_get h2, .inr (.inl ⟨rfl, T, _, _, e1, e2, e3, rfl, .cons (.int _) (.cons h3 .nil)⟩)⟩
theorem zipD_length (xs ys : List D) : (zipD xs ys).length = min xs.length ys.length := by unfold zipD; simp
theorem zipD_get {xs ys : List D} {i : Nat} {d e : D} (h : xs[i]? = some d) (h' : ys[i]? = some e) : (zipD xs ys)[i]? = some (.tup [d, e]) := by
  unfold zipD
  rw [List.getElem?_map, List.getElem?_zip_eq_some (z := (d, e)) |>.mpr ⟨h, h'⟩]
  rfl
theorem walk_zipT {K : PySem.W.Frag} {a b : Addr} {xs ys : List V} {n : Nat} (hn : n = min xs.length ys.length) : Walk (RZ.ItzT K a b) n (fun H => SqT K H a xs ∧ SqT K H b ys) (YPair (fun i => xs[i]?) (fun i => ys[i]?)) := by
  subst hn
  refine ⟨fun i _ hi q => ?_, fun _ q => ⟨xs, ys, q.1, q.2, by omega⟩, fun i H v H' _ q y => ?_⟩
  · have h1 : i < xs.length := by omega
    have h2 : i < ys.length := by omega
    exact ⟨xs, ys, xs[i], ys[i], q.1, q.2, by simp [h1], by simp [h2]⟩
  · obtain ⟨T, x, z, h1, h2, h3, h4, h5⟩ := y
    exact ⟨T, x, z, h1, h2, h3, h4 xs q.1, h5 ys q.2⟩
theorem i_zip {elts : List Expr} {kk : Nat} {tpos : Pos} (hK : X.K = S.K) (hg : Gl X "zip") (hm : X.mg "zip" = none) (ha : PE X a (rdE S B M W .clean fa)) (hb : PE X b (rdE S B M W .clean fb))
    (hs : starEach [a, b] X.env = (false, eval a X.env) :: starEach [b] X.env) (hs2 : starEach [b] X.env = [(false, eval b X.env)]) (hpl : (backTo pos (starEach [b] X.env)).any (·.1) = false) :
    PI X (.Tuple elts kk tpos) (.Call (.Name "zip" p) [a, b] [] pos) (rdI S B M W true true (iZip fa fb)) :=
  PI.imp (RZ.pi_zipA hg hm (pa_cons ha (pa_cons hb pa_nil hs2) hs) hs hpl) fun r H R ⟨g, m, j, P, E, ok, hf, q, xo⟩ => by
    refine ⟨g, m, j, _, E, ok, hf, fun x j1 g1 v H1 h1 l1 ok1 w => ⟨g1, m, _, _, E, ok1, h1, fun y j2 g2 v2 H2 ⟨zs, hz, p⟩ l2 ok2 w2 => ?_, xo.le l1.f⟩, xo⟩
    unfold zipO at hz
    split at hz
    · cases hz
      obtain ⟨a, vs, rfl, ha, ra⟩ := lst_of (w.le l2)
      obtain ⟨b, ws, rfl, hb, rb⟩ := lst_of w2
      have fh := ok2.b.fg.trans ok2.b.gh
      refine ⟨a, b, vs, ws, rfl, .inl ⟨.of (fh _ _ ha), .of (fh _ _ hb), q _ _ g2 H2 _ p (l1.trans l2) ok2 ?_⟩⟩
      unfold WalkD
      refine (walk_zip (K := X.K) (a := a) (b := b) (xs := vs) (ys := ws) (by rw [zipD_length, ra.length, rb.length])).mono (fun H s => ⟨.of (s _ _ ha), .of (s _ _ hb)⟩) fun i H x H' hi _ y => ?_
      obtain ⟨T, x1, y1, e1, e2, e3, e4, e5⟩ := y
      obtain ⟨d1, h3, h4⟩ := ra.get' e4
      obtain ⟨d2, h5, h6⟩ := rb.get' e5
      exact ⟨_, zipD_get h3 h5, .inr (.inl ⟨rfl, T, _, _, e1, e2, e3, rfl, .cons h4 (.cons h6 .nil)⟩)⟩
    · cases hz
      obtain ⟨a, vs, rfl, ha, ra⟩ := tup_of (w.le l2)
      obtain ⟨b, ws, rfl, hb, rb⟩ := tup_of w2
      have fh := ok2.b.fg.trans ok2.b.gh
      refine ⟨a, b, vs, ws, rfl, .inr ⟨by rw [hK]; exact sqT_same fh ha.t, by rw [hK]; exact sqT_same fh hb.t, q _ _ g2 H2 _ p (l1.trans l2) ok2 ?_⟩⟩
      unfold WalkD
      refine (walk_zipT (K := X.K) (a := a) (b := b) (xs := vs) (ys := ws) (by rw [zipD_length, ra.length, rb.length])).mono (fun H s => ⟨by rw [hK]; exact sqT_same s ha.t, by rw [hK]; exact sqT_same s hb.t⟩) fun i H x H' hi _ y => ?_
      obtain ⟨T, x1, y1, e1, e2, e3, e4, e5⟩ := y
      obtain ⟨d1, h3, h4⟩ := ra.get' e4
      obtain ⟨d2, h5, h6⟩ := rb.get' e5
      exact ⟨_, zipD_get h3 h5, .inr (.inl ⟨rfl, T, _, _, e1, e2, e3, rfl, .cons h4 (.cons h6 .nil)⟩)⟩
    · cases hz
end
end Mp

/-! Mp6: targets, comprehensions, list(range(..)). -/
namespace Mp
open PySem PySem.Spec L2
variable {J : Type}

section
variable {S : Js J} {B : Bs} {M : Nat → Bool} {X : Cx} {g g' : Gh} {r : St} {m : Sd} {H : Hp} {j : J} {i : Nat} {d : D} {v : V}
theorem Slots.set_fr (h : Slots S g M r m) (hM : M i = false) (rp : Rp S g.F d v) : Slots S g M (r.set i (some v)) (m.set i (some d)) := by
  have get : ∀ {k : Nat} {e : D}, (m.set i (some d))[k]? = some (some e) → (k = i ∧ e = d ∧ i < m.length) ∨ (k ≠ i ∧ m[k]? = some (some e)) := fun {k e} q => by
    by_cases hk : k = i
    · subst hk
      by_cases hl : k < m.length
      · rw [List.getElem?_set_self hl] at q
        cases q
        exact .inl ⟨rfl, rfl, hl⟩
      · rw [List.getElem?_eq_none (by simpa using hl)] at q
        cases q
    · rw [List.getElem?_set_ne (Ne.symm hk)] at q
      exact .inr ⟨hk, q⟩
  refine ⟨by simpa using h.len, fun k e q hk => ?_, fun k e q hk => ?_, fun k l a e e' q1 q2 hk hl h1 h2 => ?_⟩
  · rcases get q with ⟨rfl, rfl, hl⟩ | ⟨hn, q⟩
    · exact ⟨v, by rw [List.getElem?_set_self (by rw [h.len]; exact hl)], rp⟩
    · obtain ⟨w, h1, h2⟩ := h.fr k e q hk
      exact ⟨w, by rw [List.getElem?_set_ne (Ne.symm hn)]; exact h1, h2⟩
  · rcases get q with ⟨rfl, rfl, hl⟩ | ⟨hn, q⟩
    · rw [hM] at hk; cases hk
    · obtain ⟨w, h1, h2⟩ := h.ow k e q hk
      exact ⟨w, by rw [List.getElem?_set_ne (Ne.symm hn)]; exact h1, h2⟩
  · rcases get q1 with ⟨rfl, rfl, _⟩ | ⟨n1, q1⟩
    · rw [hM] at hk; cases hk
    · rcases get q2 with ⟨rfl, rfl, _⟩ | ⟨n2, q2⟩
      · rw [hM] at hl; cases hl
      · rw [List.getElem?_set_ne (Ne.symm n1)] at h1
        rw [List.getElem?_set_ne (Ne.symm n2)] at h2
        exact h.dj k l a e e' q1 q2 hk hl h1 h2
/-- an owned thing comes to a slot -/
theorem Slots.set_ow {a : Addr} (h : Slots S g M r m) (hM : M i = true) (o : Own S g d a) (apart : ∀ k e, k ≠ i → M k = true → m[k]? = some (some e) → r[k]? ≠ some (some (.ref a))) : Slots S g M (r.set i (some (.ref a))) (m.set i (some d)) := by
  have get : ∀ {k : Nat} {e : D}, (m.set i (some d))[k]? = some (some e) → (k = i ∧ e = d ∧ i < m.length) ∨ (k ≠ i ∧ m[k]? = some (some e)) := fun {k e} q => by
    by_cases hk : k = i
    · subst hk
      by_cases hl : k < m.length
      · rw [List.getElem?_set_self hl] at q
        cases q
        exact .inl ⟨rfl, rfl, hl⟩
      · rw [List.getElem?_eq_none (by simpa using hl)] at q
        cases q
    · rw [List.getElem?_set_ne (Ne.symm hk)] at q
      exact .inr ⟨hk, q⟩
  refine ⟨by simpa using h.len, fun k e q hk => ?_, fun k e q hk => ?_, fun k l b e e' q1 q2 hk hl h1 h2 => ?_⟩
  · rcases get q with ⟨rfl, rfl, hl⟩ | ⟨hn, q⟩
    · rw [hM] at hk; cases hk
    · obtain ⟨w, h1, h2⟩ := h.fr k e q hk
      exact ⟨w, by rw [List.getElem?_set_ne (Ne.symm hn)]; exact h1, h2⟩
  · rcases get q with ⟨rfl, rfl, hl⟩ | ⟨hn, q⟩
    · exact ⟨a, by rw [List.getElem?_set_self (by rw [h.len]; exact hl)], o⟩
    · obtain ⟨w, h1, h2⟩ := h.ow k e q hk
      exact ⟨w, by rw [List.getElem?_set_ne (Ne.symm hn)]; exact h1, h2⟩
  · rcases get q1 with ⟨rfl, rfl, hl1⟩ | ⟨n1, q1'⟩
    · rcases get q2 with ⟨rfl, rfl, _⟩ | ⟨n2, q2⟩
      · rfl
      · rw [List.getElem?_set_self (by rw [h.len]; exact hl1)] at h1
        cases h1
        rw [List.getElem?_set_ne (Ne.symm n2)] at h2
        exact absurd h2 (apart l e' n2 hl q2)
    · rcases get q2 with ⟨rfl, rfl, hl2⟩ | ⟨n2, q2⟩
      · rw [List.getElem?_set_self (by rw [h.len]; exact hl2)] at h2
        cases h2
        rw [List.getElem?_set_ne (Ne.symm n1)] at h1
        exact absurd h1 (apart k e n1 hk (by assumption))
      · rw [List.getElem?_set_ne (Ne.symm n1)] at h1
        rw [List.getElem?_set_ne (Ne.symm n2)] at h2
        exact h.dj k l b e e' q1' q2 hk hl h1 h2
/-- what is seen, not frozen, and none of the slots' -/
theorem Slots.apart_fresh {a : Addr} (h : Slots S g M r m) (n : g.G a = none) : ∀ k e, k ≠ i → M k = true → m[k]? = some (some e) → r[k]? ≠ some (some (.ref a)) := fun k e _ hk q z => by
  obtain ⟨b, h1, h2⟩ := h.ow k e q hk
  rw [z] at h1
  cases h1
  obtain ⟨o, ho⟩ := h2.in_g
  rw [n] at ho
  cases ho
end

/-! ### targets -/
abbrev Gv := D → Sd → Option Sd
abbrev Gvs := List D → Sd → Option Sd
def gNm (i : Nat) : Gv := fun d m => some (m.set i (some d))
def gsNil : Gvs := fun ds m => match ds with | [] => some m | _ => none
def gsCons (γ : Gv) (γs : Gvs) : Gvs := fun ds m => match ds with
  | d :: ds => match γ d m with
    | some m1 => γs ds m1
    | none => none
  | [] => none
def gTp (γs : Gvs) : Gv := fun d m => match d with
  | .tup ds => γs ds m
  | _ => none
/-- an item of a walk: data, or (w) a tuple just made of data -/
def RpX (S : Js J) (F : Hp) (w : Bool) (d : D) (v : V) : Prop := Rp S F d v ∨ (w = true ∧ ∃ T vs es, v = .ref T ∧ F T = some (.tup vs) ∧ d = .tup es ∧ RpL S F es vs)
section
variable (S : Js J) (B : Bs) (M : Nat → Bool)
def rdG (w : Bool) (ks : List Nat) (γ : Gv) : TG := fun v r H Q => ∃ g m j d m', Ok S B g M r H m j ∧ RpX S g.F w d v ∧ γ d m = some m' ∧ ∀ r', Ok S B g M r' H m' j → r'.length = r.length → (∀ k, k ∉ ks → r'[k]? = r[k]?) → Q r' H
def rdGs (ks : List Nat) (γ : Gvs) : TGs := fun vs r H Q => ∃ g m j ds m', Ok S B g M r H m j ∧ RpL S g.F ds vs ∧ γ ds m = some m' ∧ ∀ r', Ok S B g M r' H m' j → r'.length = r.length → (∀ k, k ∉ ks → r'[k]? = r[k]?) → Q r' H
end
theorem PG.imp {X : Cx} {e : Expr} {t t' : TG} (h : PG X e t) (i : ∀ v r H Q, t' v r H Q → t v r H Q) : PG X e t' := ⟨fun pins s σ H v u Q I rv q => h.run pins s σ H v u Q I rv (i _ _ _ _ q)⟩
theorem PGs.imp {X : Cx} {e : List Expr} {t t' : TGs} (h : PGs X e t) (i : ∀ v r H Q, t' v r H Q → t v r H Q) : PGs X e t' := ⟨fun pins s σ H v u Q I rv q => h.run pins s σ H v u Q I rv (i _ _ _ _ q)⟩
section
variable {S : Js J} {B : Bs} {M : Nat → Bool} {X : Cx} {e : Expr} {es : List Expr} {pos : Pos}
theorem g_name {i : Nat} {x : Str} (hM : M i = false) (hN : X.N.Nodup) (hi : X.N[i]? = some x) (hx : Loc X.env.scope x) (hf : X.fn x = true ∨ X.env.scope.names.lookup x = some .local) : PG X (.Name x pos) (rdG S B M false [i] (gNm i)) :=
  PG.imp (pg_name hN hi hx hf) fun v r H Q ⟨g, m, j, d, m', ok, rp, e, q⟩ => by
    unfold gNm at e
    cases e
    have rp : Rp S g.F d v := rp.elim id fun z => nomatch z.1
    exact q _ ⟨ok.b, ok.s.set_fr hM rp⟩ (by simp) fun k hk => List.getElem?_set_ne (by simpa using fun z => hk (by simp [z]))
theorem gs_nil {ks : List Nat} : PGs X [] (rdGs S B M ks gsNil) := PGs.imp pgs_nil fun vs r H Q ⟨g, m, j, ds, m', ok, rp, e, q⟩ => by
  unfold gsNil at e
  split at e
  · cases e
    cases rp
    exact ⟨rfl, q r ok rfl fun _ _ => rfl⟩
  · cases e
theorem gs_cons {ks ks' : List Nat} {γ : Gv} {γs : Gvs} (h1 : PG X e (rdG S B M false ks γ)) (h2 : PGs X es (rdGs S B M ks' γs)) (hs : (assignEach (e :: es) X.env).map (·.2) = assign e X.env :: (assignEach es X.env).map (·.2)) :
    PGs X (e :: es) (rdGs S B M (ks ++ ks') (gsCons γ γs)) := PGs.imp (pgs_cons h1 h2 hs) fun vs r H Q ⟨g, m, j, ds, m', ok, rp, e, q⟩ => by
  unfold gsCons at e
  split at e
  · split at e
    · cases rp with
      | cons rp1 rp2 =>
        refine ⟨_, _, rfl, g, m, j, _, _, ok, .inl rp1, by assumption, fun r1 ok1 l1 k1 => ⟨g, _, j, _, _, ok1, rp2, e, fun r2 ok2 l2 k2 => ?_⟩⟩
        refine q r2 ok2 (l2.trans l1) fun k hk => ?_
        rw [List.mem_append, not_or] at hk
        exact (k2 k hk.2).trans (k1 k hk.1)
    · cases e
  · cases e
theorem g_tup {w : Bool} {kt n : Nat} {ks : List Nat} {γs : Gvs} (hK : X.K = S.K) (hc : X.calm = true) (h : PGs X es (rdGs S B M ks γs)) (hn : (assignEach es X.env).length = n) (hst : (assignEach es X.env).findIdx? (·.1) = none) (hl : ∀ ds m m', γs ds m = some m' → ds.length = n) :
    PG X (.Tuple es kt pos) (rdG S B M w ks (gTp γs)) := PG.imp (pg_tup hc h hn hst) fun v r H Q ⟨g, m, j, d, m', ok, rp, e, q⟩ => by
  unfold gTp at e
  split at e
  · rcases rp with rp | ⟨_, T, vs, es, rfl, hT, he, ra⟩
    · obtain ⟨a, vs, rfl, ha, ra⟩ := tup_of rp
      exact ⟨a, vs, rfl, by rw [hK]; exact sqT_same (ok.b.fg.trans ok.b.gh) ha.t, by rw [← ra.length]; exact hl _ _ _ e, g, m, j, _, _, ok, ra, e, q⟩
    · cases he
      exact ⟨T, vs, rfl, .of ((ok.b.fg.trans ok.b.gh) _ _ hT), by rw [← ra.length]; exact hl _ _ _ e, g, m, j, _, _, ok, ra, e, q⟩
  · cases e
theorem gsNil_len : ∀ ds m m', gsNil ds m = some m' → ds.length = 0 := fun ds m m' e => by
  unfold gsNil at e
  split at e
  · rfl
  · cases e
theorem gsCons_len {γ : Gv} {γs : Gvs} {n : Nat} (h : ∀ ds m m', γs ds m = some m' → ds.length = n) : ∀ ds m m', gsCons γ γs ds m = some m' → ds.length = n + 1 := fun ds m m' e => by
  unfold gsCons at e
  split at e
  · split at e
    · rw [List.length_cons, h _ _ _ e]
    · cases e
  · cases e
end

/-! ### comprehensions -/
theorem wipe_get {σ : St} : ∀ (vs : List Nat) (i : Nat), (wipe σ vs)[i]? = if i ∈ vs then (σ[i]?).map (fun _ => none) else σ[i]?
  | [], i => by simp [wipe]
  | v :: vs, i => by
    unfold wipe
    by_cases h : i = v
    · subst h
      rw [if_pos List.mem_cons_self]
      by_cases hl : i < σ.length
      · rw [List.getElem?_set_self (by rw [wipe_length]; exact hl), List.getElem?_eq_getElem hl]; rfl
      · rw [List.getElem?_eq_none (by rw [List.length_set, wipe_length]; omega), List.getElem?_eq_none (by omega)]; rfl
    · rw [List.getElem?_set_ne (Ne.symm h), wipe_get vs i]
      by_cases hm : i ∈ vs
      · rw [if_pos hm, if_pos (List.mem_cons_of_mem _ hm)]
      · rw [if_neg hm, if_neg (by simp [h, hm])]
theorem wipe_congr {r r' : St} {vs : List Nat} (hl : r'.length = r.length) (h : ∀ k, k ∉ vs → r'[k]? = r[k]?) : wipe r' vs = wipe r vs := by
  apply List.ext_getElem?
  intro i
  rw [wipe_get, wipe_get]
  by_cases hm : i ∈ vs
  · rw [if_pos hm, if_pos hm]
    by_cases hi : i < r.length
    · rw [List.getElem?_eq_getElem hi, List.getElem?_eq_getElem (by omega)]; rfl
    · rw [List.getElem?_eq_none (by omega), List.getElem?_eq_none (by omega)]
  · rw [if_neg hm, if_neg hm]; exact h i hm
theorem wipe_wipe (r : St) (vs : List Nat) : wipe (wipe r vs) vs = wipe r vs := wipe_congr (wipe_length _ _) fun k hk => by rw [wipe_get, if_neg hk]
def wipeD (m : Sd) : List Nat → Sd
  | [] => m
  | v :: vs => (wipeD m vs).set v none
theorem wipeD_length (m : Sd) : ∀ vs, (wipeD m vs).length = m.length
  | [] => rfl
  | v :: vs => by unfold wipeD; rw [List.length_set, wipeD_length]
theorem wipeD_some {m : Sd} {i : Nat} {d : D} : ∀ {vs : List Nat}, (wipeD m vs)[i]? = some (some d) → m[i]? = some (some d) ∧ i ∉ vs
  | [], h => ⟨h, by simp⟩
  | v :: vs, h => by
    unfold wipeD at h
    by_cases hi : v = i
    · subst hi
      by_cases hv : v < (wipeD m vs).length
      · rw [List.getElem?_set_self hv] at h; cases h
      · rw [List.getElem?_eq_none (by simpa using hv)] at h; cases h
    · rw [List.getElem?_set_ne hi] at h
      obtain ⟨h1, h2⟩ := wipeD_some h
      exact ⟨h1, by simp only [List.mem_cons, not_or]; exact ⟨fun e => hi e.symm, h2⟩⟩
theorem Slots.wipe {S : Js J} {g : Gh} {M : Nat → Bool} {r : St} {m : Sd} (h : Slots S g M r m) (vs : List Nat) : Slots S g M (wipe r vs) (wipeD m vs) :=
  ⟨by rw [wipe_length, wipeD_length]; exact h.len, fun i d e q => by
    obtain ⟨e, n⟩ := wipeD_some e
    obtain ⟨v, h1, h2⟩ := h.fr i d e q
    exact ⟨v, by rw [wipe_get, if_neg n]; exact h1, h2⟩, fun i d e q => by
    obtain ⟨e, n⟩ := wipeD_some e
    obtain ⟨v, h1, h2⟩ := h.ow i d e q
    exact ⟨v, by rw [wipe_get, if_neg n]; exact h1, h2⟩, fun i k a d e q1 q2 hi hk h1 h2 => by
    obtain ⟨q1, n1⟩ := wipeD_some q1
    obtain ⟨q2, n2⟩ := wipeD_some q2
    rw [wipe_get, if_neg n1] at h1
    rw [wipe_get, if_neg n2] at h2
    exact h.dj i k a d e q1 q2 hi hk h1 h2⟩
section
variable {S : Js J} {B : Bs} {g : Gh} {H : Hp} {j : J} {p : Addr}
/-- a thing that nobody sees is written -/
theorem OkB.out (k : OkB S B g H j) {o o' : HO} (h : H p = some o') (ho : ∀ x y, o' ≠ .frz x y) (n1 : g.G p = none) (n2 : ¬ g.A p) (n3 : B.H0 p = none) : OkB S B g (upd H p o) j := by
  refine ⟨k.fg, fun b u e => ?_, k.ga, S.frame k.jr (Same.refl _) fun b z => upd_ne fun q => n2 (q ▸ z), k.f0, k.g0, k.a0, fun b u e n => ?_, fun b e => ?_, ?_⟩
  · rw [upd_ne (ne_of_none e n1)]; exact k.gh b u e
  · rw [upd_ne (ne_of_none e n3)]; exact k.h0 b u e n
  · by_cases hb : b = p
    · subst hb; rw [upd_same] at e; cases e
    · rw [upd_ne hb] at e; exact k.h1 b e
  · obtain ⟨o1, u1, e1⟩ := k.sm
    refine ⟨o1, u1, ?_⟩
    rw [upd_ne fun z => ho o1 u1 (by rw [z, h] at e1; exact Option.some.inj e1)]
    exact e1
/-- .. is new to the heap, and nobody sees it -/
theorem OkB.lay (k : OkB S B g H j) (o : HO) (h : H p = none) : OkB S B g (upd H p o) j := by
  obtain ⟨_, n1, n2, n3⟩ := k.hn h
  refine ⟨k.fg, fun b u e => ?_, k.ga, S.frame k.jr (Same.refl _) fun b z => upd_ne fun q => n2 (q ▸ z), k.f0, k.g0, k.a0, fun b u e n => ?_, fun b e => ?_, ?_⟩
  · rw [upd_ne (ne_of_none e n1)]; exact k.gh b u e
  · rw [upd_ne (ne_of_none e n3)]; exact k.h0 b u e n
  · by_cases hb : b = p
    · subst hb; rw [upd_same] at e; cases e
    · rw [upd_ne hb] at e; exact k.h1 b e
  · obtain ⟨o1, u1, e1⟩ := k.sm
    exact ⟨o1, u1, by rw [upd_ne (ne_of_none e1 h)]; exact e1⟩
/-- .. is seen from now on -/
theorem OkB.adopt (k : OkB S B g H j) {o : HO} (h : H p = some o) (n1 : g.G p = none) (n2 : ¬ g.A p) (n3 : B.H0 p = none) : OkB S B (g.see p o) H j := by
  refine ⟨k.fg.trans (same_new n1), fun b u e => ?_, fun b u e => ?_, k.jr, k.f0, fun b u e => ?_, k.a0, k.h0, k.h1, k.sm⟩
  · have e' : upd g.G p o b = some u := e
    by_cases hb : b = p
    · subst hb; rw [upd_same] at e'; rw [h]; exact e'
    · rw [upd_ne hb] at e'; exact k.gh b u e'
  · have e' : upd g.G p o b = some u := e
    by_cases hb : b = p
    · subst hb; exact n2
    · rw [upd_ne hb] at e'; exact k.ga b u e'
  · have e' : upd g.G p o b = some u := e
    by_cases hb : b = p
    · subst hb; exact .inr n3
    · rw [upd_ne hb] at e'; exact k.g0 b u e'
end

/-- what is seen, without one thing -/
def Gh.hide (g : Gh) (p : Addr) : Gh := ⟨g.F, fun b => if b = p then none else g.G b, g.A⟩
section
variable {S : Js J} {B : Bs} {g g' : Gh} {H : Hp} {j : J} {p : Addr}
theorem hide_sub {g : Gh} {p : Addr} : Same (g.hide p).G g.G := fun b o e => by
  have e' : (if b = p then none else g.G b) = some o := e
  by_cases hb : b = p
  · rw [if_pos hb] at e'; cases e'
  · rw [if_neg hb] at e'; exact e'
theorem OkB.hide (k : OkB S B g H j) (n : g.F p = none) : OkB S B (g.hide p) H j :=
  ⟨fun b o e => by
    show (if b = p then none else g.G b) = some o
    rw [if_neg (ne_of_none e n)]
    exact k.fg b o e, hide_sub.trans k.gh, fun b o e => k.ga b o (hide_sub b o e), k.jr, k.f0, fun b o e => k.g0 b o (hide_sub b o e), k.a0, k.h0, k.h1, k.sm⟩
theorem Le.hide {o : HO} (l : Le (g.see p o) g') (n : g.G p = none) : Le g (g'.hide p) :=
  ⟨l.f, fun b u e => by
    have hb : b ≠ p := ne_of_none e n
    show (if b = p then none else g'.G b) = some u
    rw [if_neg hb]
    refine l.g b u ?_
    show upd g.G p o b = some u
    rw [upd_ne hb]; exact e, fun b u e => by
    rcases l.n b u e with h | h
    · exact .inl h
    · right
      have h' : upd g.G p o b = none := h
      by_cases hb : b = p
      · subst hb; rw [upd_same] at h'; cases h'
      · rw [upd_ne hb] at h'; exact h'⟩
end

def compW (wm : Sd) (γ : Gv) (ft : Tv J) (fe : Ev J) : List D → List D → J → (List D → J → Prop) → Prop
  | [], acc, j, P => P acc j
  | d :: ds, acc, j, P => ∃ m2, γ d wm = some m2 ∧ ft m2 j (fun b j1 => if b = true then fe m2 j1 (fun y j2 => compW wm γ ft fe ds (acc ++ [y]) j2 P) xNo else compW wm γ ft fe ds acc j1 P) xNo
def eComp (vs : List Nat) (fi : Iv J) (γ : Gv) (ft : Tv J) (fe : Ev J) (m : Sd) (j : J) (P : D → J → Prop) (E : XP J) : Prop :=
  fi m j (fun ds j1 => ds.length ≤ LINE ∧ compW (wipeD m vs) γ ft fe ds [] j1 (fun ys j2 => P (.lst ys) j2)) E
theorem compW_mo {wm : Sd} {γ : Gv} {ft : Tv J} {fe : Ev J} [ht : MoT ft] [he : MoE fe] : ∀ {ds acc : List D} {j : J} {P P' : List D → J → Prop}, compW wm γ ft fe ds acc j P → (∀ ys j', P ys j' → P' ys j') → compW wm γ ft fe ds acc j P'
  | [], _, _, _, _, h, q => q _ _ h
  | _ :: _, _, _, _, _, ⟨m2, e, h⟩, q => ⟨m2, e, ht.mo h (fun _ _ p => ite_mono p (fun p => he.mo p (fun _ _ p => compW_mo p q) fun _ _ _ x => x) fun p => compW_mo p q) fun _ _ _ x => x⟩
instance {vs : List Nat} {fi : Iv J} {γ : Gv} {ft : Tv J} {fe : Ev J} [hi : MoA fi] [ht : MoT ft] [he : MoE fe] : MoE (eComp vs fi γ ft fe) := ⟨fun h q x => hi.mo h (fun _ _ ⟨l, p⟩ => ⟨l, compW_mo p fun _ _ p => q _ _ p⟩) x⟩
section
variable {S : Js J} {B : Bs} {M : Nat → Bool} {W : WX} {X : Cx} {elt tg iter : Expr} {ifs : List Expr} {scope : Scope} {own : List (Str × Nat)} {pos : Pos} {fi : Iv J} {γ : Gv} {ft : Tv J} {fe : Ev J} {ks : List Nat} {c w : Bool}
theorem ts_nil {X : Cx} : PTs X [] (rdT S B M W tYesD) := ⟨fun pins s σ H Q I ⟨g, m, j, P, E, ok, hf, q, _⟩ => pts_nil.run pins s σ H Q I (q _ _ g H hf (Le.refl g) ok)⟩
theorem lc_rd {R : St} {H : Hp} {Q : VK} (hks : ∀ k ∈ ks, k ∈ own.map (·.2)) (h : rdE S B M W .fresh (eComp (own.map (·.2)) fi γ ft fe) R H Q) :
    tLc (rdI S B M W c w fi) (rdG S B M w ks γ) (rdT S B M W0 ft) (rdE S B M W0 .clean fe) (own.map (·.2)) R H Q := by
  obtain ⟨g, m, j, P, E, ok, hf, q, xo⟩ := h
  refine ⟨g, m, j, _, E, ok, hf, fun ds j1 g1 H1 Jt hh l1 ok1 wk => fun Dd nD => ?_, xo⟩
  obtain ⟨hl, h2⟩ := hh
  obtain ⟨n1, n2, n3, n4⟩ := ok1.b.hn nD
  refine lc_it wk (fun i Hh => ∃ (gi : Gh) (ji : J) (accD : List D) (accV : List V), Le g1 gi ∧ Ok S B gi M (wipe R (own.map (·.2))) Hh (wipeD m (own.map (·.2))) ji ∧ Hh Dd = some (.lst accV) ∧ gi.G Dd = none ∧ ¬ gi.A Dd ∧
    RpL S gi.F accD accV ∧ compW (wipeD m (own.map (·.2))) γ ft fe (ds.drop i) accD ji (fun ys j2 => P (.lst ys) j2) ∧ accD.length ≤ i) ?_ ?_ ?_ ?_
  · exact ⟨g1, j1, [], [], Le.refl _, ⟨ok1.b.lay _ nD, ok1.s.wipe _⟩, upd_same, n2, n3, .nil, by rw [List.drop_zero]; exact h2, Nat.le_refl _⟩
  · rintro i Hh hi ⟨gi, ji, accD, accV, li, oki, hD, hDG, hDA, ra, hc, ha⟩
    exact (hp_le li c).trans (oki.b.sub c)
  · rintro i x Hh Hh' hi ⟨gi, ji, accD, accV, li, oki, hD, hDG, hDA, ra, hc, ha⟩ ⟨dd, hdd, y⟩
    have hdrop : ds.drop i = dd :: ds.drop (i + 1) := by
      obtain ⟨hlt, he⟩ := List.getElem?_eq_some_iff.mp hdd
      rw [List.drop_eq_getElem_cons hlt, he]
    rw [hdrop] at hc
    obtain ⟨m2, hm2, hc⟩ := hc
    -- the new list is seen while the item is made
    have la : Le gi (gi.see Dd (.lst accV)) := Le.see hDG
    have oka : Ok S B (gi.see Dd (.lst accV)) M (wipe R (own.map (·.2))) Hh (wipeD m (own.map (·.2))) ji := ⟨oki.b.adopt hD hDG hDA n4, oki.s.le la⟩
    have item : ∃ g2, Le (gi.see Dd (.lst accV)) g2 ∧ Ok S B g2 M (wipe R (own.map (·.2))) Hh' (wipeD m (own.map (·.2))) ji ∧ RpX S g2.F w dd x := by
      rcases y with ⟨rfl, rp⟩ | ⟨hw, T, vs, es, rfl, hT, rfl, rfl, rl⟩ | ⟨T, o, vs, es, rfl, hT, hdo, rfl, rfl, rl⟩
      · exact ⟨_, Le.refl _, oka, .inl (rp.mono li.f)⟩
      · obtain ⟨t1, t2, t3, t4⟩ := oka.b.hn hT
        exact ⟨_, Le.frz oka.b.fg t2, ⟨oka.b.frz _ hT, oka.s.le (Le.frz oka.b.fg t2)⟩, .inr ⟨hw, T, vs, es, rfl, upd_same, rfl, (rl.mono li.f).mono (same_new t1)⟩⟩
      · obtain ⟨t1, t2, t3, t4⟩ := oka.b.hn hT
        exact ⟨_, Le.frz oka.b.fg t2, ⟨oka.b.frz _ hT, oka.s.le (Le.frz oka.b.fg t2)⟩, .inl (.tup (.inl ⟨o, upd_same, hdo⟩) ((rl.mono li.f).mono (same_new t1)))⟩
    obtain ⟨g2, l2, ok2, rp2⟩ := item
    -- behind the turn
    have back : ∀ (g5 : Gh) (H5 : Hp) (j5 : J) (o : List V), Le g2 g5 → OkB S B g5 H5 j5 → H5 Dd = some (.lst accV) ∧ Le gi (g5.hide Dd) ∧ OkB S B (g5.hide Dd) (upd H5 Dd (.lst o)) j5 ∧ (g5.hide Dd).G Dd = none ∧ ¬ (g5.hide Dd).A Dd := fun g5 H5 j5 o l5 ok5 => by
      have lz := l2.trans l5
      have hG5 : g5.G Dd = some (.lst accV) := lz.g _ _ upd_same
      have hF5 : g5.F Dd = none := by
        cases z : g5.F Dd with
        | none => rfl
        | some u =>
          rcases lz.n Dd u z with z | z
          · have z' : gi.F Dd = some u := z
            rw [oki.b.fg.free hDG] at z'; cases z'
          · have z' : upd gi.G Dd (.lst accV) Dd = none := z
            rw [upd_same] at z'; cases z'
      have hA5 : ¬ g5.A Dd := ok5.ga _ _ hG5
      refine ⟨ok5.gh _ _ hG5, lz.hide hDG, ?_, if_pos rfl, hA5⟩
      exact (ok5.hide hF5).out (ok5.gh _ _ hG5) (by intro x y z; cases z) (if_pos rfl) hA5 n4
    refine ⟨g2, _, ji, dd, m2, ok2, rp2, hm2, fun r3 ok3 len3 k3 => ⟨?_, ?_⟩⟩
    · rw [wipe_congr (r := wipe R (own.map (·.2))) len3 fun k hk => k3 k fun z => hk (hks k z), wipe_wipe]
    · refine ⟨g2, m2, ji, _, xNo, ok3, hc, fun b j3 g4 H4 p l4 ok4 => ite_mono p (fun p => ?_) (fun p => ?_), XOut.no⟩
      · refine ⟨g4, m2, _, _, xNo, ok4, p, fun y j4 g5 v5 H5 p l5 ok5 w5 => ?_, XOut.no⟩
        obtain ⟨b1, b2, b3, b4, b5⟩ := back g5 H5 j4 (accV ++ [v5]) (l4.trans l5) ok5.b
        refine ⟨accV, b1, ?_, g5.hide Dd, j4, accD ++ [y], accV ++ [v5], li.trans b2, ⟨b3, oki.s.le b2⟩, upd_same, b4, b5, (ra.mono b2.f).append (.cons w5 .nil), p, ?_⟩
        · rw [← ra.length]
          have := line_ok
          omega
        · rw [List.length_append]; simp only [List.length_cons, List.length_nil]; omega
      · obtain ⟨b1, b2, b3, b4, b5⟩ := back g4 H4 j3 accV l4 ok4.b
        have eH : upd H4 Dd (.lst accV) = H4 := by
          funext b
          by_cases hb : b = Dd
          · subst hb; rw [upd_same, b1]
          · rw [upd_ne hb]
        rw [eH] at b3
        exact ⟨g4.hide Dd, j3, accD, accV, li.trans b2, ⟨b3, oki.s.le b2⟩, b1, b4, b5, ra.mono b2.f, p, by omega⟩
  · rintro Hh ⟨gi, ji, accD, accV, li, oki, hD, hDG, hDA, ra, hc, ha⟩
    rw [List.drop_length] at hc
    have hc : P (.lst accD) ji := hc
    have l2 : Le gi (gi.see Dd (.lst accV)) := Le.see hDG
    refine q _ _ (gi.see Dd (.lst accV)) _ Hh hc ((l1.trans li).trans l2) ⟨oki.b.adopt hD hDG hDA n4, ok1.s.le (li.trans l2)⟩ ⟨Dd, rfl, l1.g.free n2, ?_, .inl ⟨accD, accV, rfl, upd_same, ra⟩⟩
    exact oki.b.fg.free hDG
theorem e_comp (hc : X.calm = true) (hN : X.N.Nodup) (hi : PI X tg iter (rdI S B M W c w fi)) (ok : BlkOk X.N X.env.scope scope own) (hks : ∀ k ∈ ks, k ∈ own.map (·.2))
    (hg : ∀ (s : Shared) (H : Hp) (C : Addr) (cl : List (Str × Addr)) (fp : List Addr), PG (X.blk s H scope (compEnvC scope cl C X.env) fp) tg (rdG S B M w ks γ)) (ht : ∀ (s : Shared) (H : Hp) (C : Addr) (cl : List (Str × Addr)) (fp : List Addr), PTs (X.blk s H scope (compEnvC scope cl C X.env) fp) ifs (rdT S B M W0 ft))
    (he : ∀ (s : Shared) (H : Hp) (C : Addr) (cl : List (Str × Addr)) (fp : List Addr), PE (X.blk s H scope (compEnvC scope cl C X.env) fp) elt (rdE S B M W0 .clean fe)) (hs : ∀ x, foldedSetIterable iter X.env x = pure x) :
    PE X (.ListComp elt [⟨tg, iter, ifs, 0⟩] scope pos) (rdE S B M W .fresh (eComp (own.map (·.2)) fi γ ft fe)) :=
  PE.imp (pe_lc hc hN hi ok hg ht he hs) fun _ _ _ h => lc_rd hks h
end
end Mp

/-! Mp7: defs by data, their calls; statements. -/
namespace Mp
open PySem PySem.Spec L2
open PyProof.Rows hiding St
variable {J : Type}

/-! ### a def's promise, where no repr is under way -/
structure FnG (P : Program) (w : World) (K : PySem.W.Frag) (mg : Str → Option Value) (base : Heap) (CX : CXT) (k : Nat) (f : Addr) (fd : FuncData) (ps : List Str) (sp : Sp) : Prop where
  len : ∀ vs H Q E, sp vs H Q E → vs.length = ps.length
  run : ∀ (A : Around) (outer : List Env) (s : Shared) (H : Hp) (args : Args) (us : List Value) (vs : List V) (Q : VK) (E : XK), Room k A → A.guards = some [] → Env0 P w K mg base A outer s H → BindsTo s fd args (ps.zip us) → Vals vs us → sp vs H Q E →
    codeAny (model P w) A (.call (.ref f) args) (CR CX outer P w H s Q E) s
theorem FnG.mono {P : Program} {w : World} {K : PySem.W.Frag} {mg : Str → Option Value} {base : Heap} {CX : CXT} {j k : Nat} {f : Addr} {fd : FuncData} {ps : List Str} {sp : Sp} (F : FnG P w K mg base CX j f fd ps sp) (h : j ≤ k) :
    FnG P w K mg base CX k f fd ps sp := ⟨F.len, fun A outer s H args us vs Q E hr => F.run A outer s H args us vs Q E (hr.mono h)⟩
theorem FnG.imp {P : Program} {w : World} {K : PySem.W.Frag} {mg : Str → Option Value} {base : Heap} {CX : CXT} {k : Nat} {f : Addr} {fd : FuncData} {ps : List Str} {sp sp' : Sp} (F : FnG P w K mg base CX k f fd ps sp)
    (h : ∀ vs H Q E, sp' vs H Q E → sp vs H Q E) : FnG P w K mg base CX k f fd ps sp' :=
  ⟨fun vs H Q E q => F.len vs H Q E (h _ _ _ _ q), fun A outer s H args us vs Q E hr hg he hb hv hs => F.run A outer s H args us vs Q E hr hg he hb hv (h _ _ _ _ hs)⟩
theorem fnG_of {CX : CXT} {P : Program} {w : World} {K : PySem.W.Frag} {mg : Str → Option Value} {base : Heap} {k : Nat} {f : Addr} {name qual : Str} {params : Arguments} {body : List Stmt} {scope : Scope} {dV kV doc pm cdv ct oc : Value} {an od : Option Addr}
    {osl : Array (Option Value)} {N ps : List Str} {sp : Sp} (lk : K.lookup f = some ⟨oc, od, .func (PySem.W.fnOf name qual params body scope dV kV doc pm an cdv ct), osl⟩) (hcd : PySem.W.codeIn K cdv qual = true) (S : FnScope N ps scope)
    (len : ∀ vs H Q E, sp vs H Q E → vs.length = ps.length)
    (hbody : ∀ (A : Around) (outer : List Env) (s : Shared) (H : Hp) (vs : List V) (Q : VK) (E : XK), Room k (A.deeper (envOfC qual scope s.heap.objs.size f cdv)) → (A.deeper (envOfC qual scope s.heap.objs.size f cdv)).guards = some [] → sp vs H Q E →
      ∃ t, PSs (cxOf CX P w K mg base N qual scope f cdv A outer s H E) body t ∧ t { nx := fun _ H' => Q .non H', rt := Q } (start N vs) H) :
    FnG P w K mg base CX (k + 1) f (PySem.W.fnOf name qual params body scope dV kV doc pm an cdv ct) ps sp := by
  refine ⟨len, fun A outer s H args us vs Q E hr hgd e0 hb r hsp => ?_⟩
  have hl := len _ _ _ _ hsp
  have KX : K.In s.heap := e0.mod.kin.keeps fun b o e => (e0.bs b o e).1
  have lim : s.heap.NoLimit := e0.mod.nolimit.keeps fun b o e => (e0.bs b o e).1
  have hkind : ∀ y ∈ ps.zip us, scope.names.lookup y.1 = some .local ∨ (scope.names.lookup y.1 = some .cell ∧ ((cellsFrom (s.heap.objs.size + 1) scope.names []).lookup y.1).isSome = true) := fun ⟨n, v⟩ hy => by
    rcases S.par n (List.of_mem_zip hy).1 with q | q
    · exact .inl q
    · exact .inr ⟨q, PySem.W.cellsFrom_some _ _ _ (.inl q)⟩
  refine codeAny_call_function hr.depth (KX _ _ lk) rfl S.co S.gen rfl (PySem.W.codeRec_of KX hcd) (hb _ _ _ _ ?_)
  refine wpAny_newFunctionEnv_cells S.kind hkind fun env he s1 x => ?_
  subst he
  refine ⟨lim.keeps x.toInCall.keep, codeAny_func ?_⟩
  obtain ⟨t, ht, hq⟩ := hbody A outer s H vs Q E (hr.deeper _) hgd hsp
  have I : Inv (cxOf CX P w K mg base N qual scope f cdv A outer s H E) [] (start N vs) H s1 := inv_start S hr.hd e0 hl r x
  refine wpAny_mono (ht.run [] s1 (start N vs) H _ I hq) (fun fl s' hs => ?_) fun e s' hs => hs
  have fin : ∀ {σ' : St} {H' : Hp} {v : V} {u : Value}, Inv (cxOf CX P w K mg base N qual scope f cdv A outer s H E) [] σ' H' s' → RelV v u → Q v H' → CE outer P w H s Q u s' :=
    fun {σ' H' v u} J rv q => ⟨v, H', J.os, J.bare, J.base, J.hok, rv, q⟩
  cases fl with
  | ret u =>
    obtain ⟨v, σ', H', J, rv, q⟩ := hs
    exact fin J rv q
  | next =>
    obtain ⟨σ', H', J, q⟩ := hs
    exact fin (v := V.non) (u := Value.none) J rfl q
  | brk =>
    obtain ⟨_, _, _, q⟩ := hs
    exact False.elim q
  | cont =>
    obtain ⟨_, _, _, q⟩ := hs
    exact False.elim q
section
variable {X : Cx} {CX : CXT} {k : Nat} {f C : Addr} {fd : FuncData} {ps : List Str} {sp : Sp} {dvs : List V} {ds : List Value} {E : XK} {x m : Str} {p pos apos : Pos} {e o : Expr} {es : List Expr} {ta : TE} {t : TA}
theorem run_fnG {pins : List (Addr × Obj)} {σ : St} {H : Hp} {s : Shared} {Q : VK} {us : List Value} {vs : List V} (F : FnG X.prog X.w X.K X.mg X.base CX k f fd ps sp) (hr : Room k X.A) (hgd : X.A.guards = some []) (hb : Binds X.K fd ps ds) (hd : Vals dvs ds) (hx : Passes CX X E)
    (I : Inv X pins σ H s) (r : Vals vs us) (h : sp (vs ++ dvs) H Q E) : wpAny (model X.prog X.w) X.A (call (.ref f) us) (EP X pins σ Q) X.xe s := by
  have r2 : Vals (vs ++ dvs) (us ++ ds) := r.append hd
  have hl : (us ++ ds).length = ps.length := by rw [← r2.length]; exact F.len _ _ _ _ h
  refine wpAny_call (codeAny_mono (F.run X.A X.stack s H ⟨us, []⟩ (us ++ ds) (vs ++ dvs) Q E hr hgd I.env0 (hb s us I.kIn hl) r2 h) fun r s' hq => ?_)
  cases r with
  | error e => exact hx pins σ H s e s' I hq
  | ok fl =>
    cases fl with
    | ret u => exact I.after hq
    | next => exact False.elim hq
    | brk => exact False.elim hq
    | cont => exact False.elim hq
theorem pe_callG (F : FnG X.prog X.w X.K X.mg X.base CX k f fd ps sp) (hr : Room k X.A) (hgd : X.A.guards = some []) (hg : Gl X x) (hm : X.mg x = some (.ref f)) (hk : PySem.W.keepIn X.K (.ref f) = true) (hb : Binds X.K fd ps ds) (hd : Vals dvs ds) (hx : Passes CX X E)
    (ha : PA X (e :: es) t) (hdb : (x == ("__debug__" : Str)) = false) (he : starEach (e :: es) X.env = (false, eval e X.env) :: starEach es X.env) (hpl : (backTo pos (starEach es X.env)).any (·.1) = false) :
    PE X (.Call (.Name x p) (e :: es) [] pos) (tCall sp dvs E t) := by
  refine ⟨fun pins s σ H Q I h => ?_⟩
  refine wpAny_Call_Name_kw (ld_glob I hg hm ?_ hdb)
  refine PySem.W.callWith_K (h₀ := X.base) I.ok.mod.kin hk (thn (ha.run pos pins s σ H _ I h) fun us s1 ⟨vs, H1, I1, r, q⟩ => ⟨I1.kIn, ?_⟩) he hpl
  exact run_fnG F hr hgd hb hd hx I1 r q
theorem pe_callG0 (F : FnG X.prog X.w X.K X.mg X.base CX k f fd ps sp) (hr : Room k X.A) (hgd : X.A.guards = some []) (hg : Gl X x) (hm : X.mg x = some (.ref f)) (hk : PySem.W.keepIn X.K (.ref f) = true) (hb : Binds X.K fd ps ds) (hd : Vals dvs ds) (hx : Passes CX X E)
    (hdb : (x == ("__debug__" : Str)) = false) : PE X (.Call (.Name x p) [] [] pos) (tCall sp dvs E tNil) := by
  refine ⟨fun pins s σ H Q I h => ?_⟩
  refine wpAny_Call_Name_kw (ld_glob I hg hm ?_ hdb)
  exact PySem.W.callWith_K0 I.kIn hk (run_fnG (us := []) F hr hgd hb hd hx I .nil h)
end

/-! ### a call whose exceptions the slots see -/
section
variable {X : Cx} {k : Nat} {f : Addr} {fd : FuncData} {ps : List Str} {sp : Sp} {E : St → XK} {x : Str} {p pos : Pos} {e : Expr} {es : List Expr} {t : TA} {CX : CXT}
theorem run_fnGS {pins : List (Addr × Obj)} {σ : St} {H : Hp} {s : Shared} {Q : VK} {us : List Value} {vs : List V} (F : FnG X.prog X.w X.K X.mg X.base CX k f fd ps sp) (hr : Room k X.A) (hgd : X.A.guards = some []) (hb : Binds X.K fd ps []) (hx : PassesAt CX X σ (E σ))
    (I : Inv X pins σ H s) (r : Vals vs us) (h : sp vs H Q (E σ)) : wpAny (model X.prog X.w) X.A (call (.ref f) us) (EP X pins σ Q) X.xe s := by
  have hl : us.length = ps.length := by rw [← r.length]; exact F.len _ _ _ _ h
  have b := hb s us I.kIn (by rw [List.append_nil]; exact hl)
  rw [List.append_nil] at b
  refine wpAny_call (codeAny_mono (F.run X.A X.stack s H ⟨us, []⟩ us vs Q (E σ) hr hgd I.env0 b r h) fun r s' hq => ?_)
  cases r with
  | error e => exact hx pins H s e s' I hq
  | ok fl =>
    cases fl with
    | ret u => exact I.after hq
    | next => exact False.elim hq
    | brk => exact False.elim hq
    | cont => exact False.elim hq
theorem pe_callGS (F : FnG X.prog X.w X.K X.mg X.base CX k f fd ps sp) (hr : Room k X.A) (hgd : X.A.guards = some []) (hg : Gl X x) (hm : X.mg x = some (.ref f)) (hk : PySem.W.keepIn X.K (.ref f) = true) (hb : Binds X.K fd ps []) (hx : ∀ σ, PassesAt CX X σ (E σ))
    (ha : PA X (e :: es) t) (hdb : (x == ("__debug__" : Str)) = false) (he : starEach (e :: es) X.env = (false, eval e X.env) :: starEach es X.env) (hpl : (backTo pos (starEach es X.env)).any (·.1) = false) :
    PE X (.Call (.Name x p) (e :: es) [] pos) (tCallS sp E t) := by
  refine ⟨fun pins s σ H Q I h => ?_⟩
  refine wpAny_Call_Name_kw (ld_glob I hg hm ?_ hdb)
  refine PySem.W.callWith_K (h₀ := X.base) I.ok.mod.kin hk (thn (ha.run pos pins s σ H _ I h) fun us s1 ⟨vs, H1, I1, r, q⟩ => ⟨I1.kIn, ?_⟩) he hpl
  exact run_fnGS F hr hgd hb (hx σ) I1 r q
theorem pe_callGS0 (F : FnG X.prog X.w X.K X.mg X.base CX k f fd ps sp) (hr : Room k X.A) (hgd : X.A.guards = some []) (hg : Gl X x) (hm : X.mg x = some (.ref f)) (hk : PySem.W.keepIn X.K (.ref f) = true) (hb : Binds X.K fd ps []) (hx : ∀ σ, PassesAt CX X σ (E σ))
    (hdb : (x == ("__debug__" : Str)) = false) : PE X (.Call (.Name x p) [] [] pos) (tCallS sp E tNil) := by
  refine ⟨fun pins s σ H Q I h => ?_⟩
  refine wpAny_Call_Name_kw (ld_glob I hg hm ?_ hdb)
  exact PySem.W.callWith_K0 I.kIn hk (run_fnGS (us := []) F hr hgd hb (hx σ) I .nil h)
end

/-! ### a def by what it does on data -/
abbrev Fv (J : Type) := List D → J → (D → J → Prop) → (Ex → J → Prop) → Prop
class MoF (f : Fv J) : Prop where
  mo : ∀ {ds : List D} {j : J} {P P' : D → J → Prop} {E E' : Ex → J → Prop}, f ds j P E → (∀ d j', P d j' → P' d j') → (∀ e j', E e j' → E' e j') → f ds j P' E'
structure FPost (S : Js J) (F : Hp) (A : Addr → Prop) (H : Hp) (F' : Hp) (A' : Addr → Prop) (H' : Hp) (j' : J) : Prop where
  sub : Same F F'
  fh : Same F' H'
  fa : ∀ b o, F' b = some o → ¬ A' b
  jr : S.rep j' F' A' H'
  keep : ∀ b o, H b = some o → ¬ A b → H' b = some o
  ff : ∀ b o, F' b = some o → F b = some o ∨ H b = none
  af : ∀ b, A' b → A b ∨ H b = none
  dm : ∀ b, H' b = none → H b = none
  sm : ∃ o u, H' sysModules = some (.frz o u)
def spF (S : Js J) (n : Nat) (φ : Fv J) : Sp := fun vs H Q E => ∃ F A j ds P Ep, Same F H ∧ (∀ b o, F b = some o → ¬ A b) ∧ S.rep j F A H ∧ (∃ o u, H sysModules = some (.frz o u)) ∧ RpL S F ds vs ∧ ds.length = n ∧ φ ds j P Ep ∧
  (∀ d j' F' A' H' v, P d j' → FPost S F A H F' A' H' j' → Rp S F' d v → Q v H') ∧ (∀ e j' F' A' H' cls dx, Ep e j' → FPost S F A H F' A' H' j' → ExR S F' e cls dx → E cls dx H')
def un2 (F G : Hp) : Hp := fun b => match F b with | some o => some o | none => G b
theorem un2_l {F G : Hp} : Same F (un2 F G) := fun b o e => by unfold un2; rw [e]
theorem un2_cases {F G : Hp} {b : Addr} {o : HO} (h : un2 F G b = some o) : F b = some o ∨ (F b = none ∧ G b = some o) := by
  unfold un2 at h
  split at h
  · cases h; exact .inl (by assumption)
  · exact .inr ⟨by assumption, h⟩
section
variable {S : Js J} {B : Bs} {g : Gh} {H H' F' : Hp} {A' : Addr → Prop} {j j' : J}
theorem post_base (ok : OkB S B g H j) {F : Hp} (p : FPost S F g.A H F' A' H' j') : (∀ b o, g.G b = some o → H' b = some o ∧ ¬ A' b) ∧ (∀ b, A' b → B.A0 b ∨ B.H0 b = none) ∧ (∀ b o, B.H0 b = some o → ¬ B.A0 b → H' b = some o) ∧ (∀ b, H' b = none → B.H0 b = none) := by
  refine ⟨fun b o e => ⟨p.keep b o (ok.gh b o e) (ok.ga b o e), fun z => ?_⟩, fun b z => ?_, fun b o e n => ?_, fun b e => ok.h1 b (p.dm b e)⟩
  · rcases p.af b z with z | z
    · exact ok.ga b o e z
    · rw [ok.gh b o e] at z; cases z
  · rcases p.af b z with z | z
    · exact ok.a0 b z
    · exact .inr (ok.h1 b z)
  · refine p.keep b o (ok.h0 b o e n) fun z => ?_
    rcases ok.a0 b z with z | z
    · exact n z
    · rw [e] at z; cases z
/-- behind a call with frozen arguments -/
theorem post_clean (ok : OkB S B g H j) (p : FPost S g.F g.A H F' A' H' j') : Le g ⟨F', un2 F' g.G, A'⟩ ∧ OkB S B ⟨F', un2 F' g.G, A'⟩ H' j' := by
  obtain ⟨b1, b2, b3, b4⟩ := post_base ok p
  have gg : Same g.G (un2 F' g.G) := fun b o e => by
    unfold un2
    split
    · rename_i o' h
      rcases p.ff b o' h with z | z
      · rw [ok.fg b o' z] at e; exact e
      · rw [ok.gh b o e] at z; cases z
    · exact e
  refine ⟨⟨p.sub, gg, fun b o e => ?_⟩, ⟨un2_l, fun b o e => ?_, fun b o e => ?_, p.jr, ok.f0.trans p.sub, fun b o e => ?_, b2, b3, b4, p.sm⟩⟩
  · rcases p.ff b o e with z | z
    · exact .inl z
    · exact .inr (ok.gh.free z)
  · rcases un2_cases e with e | ⟨_, e⟩
    · exact p.fh b o e
    · exact (b1 b o e).1
  · rcases un2_cases e with e | ⟨_, e⟩
    · exact p.fa b o e
    · exact (b1 b o e).2
  · rcases un2_cases e with e | ⟨_, e⟩
    · rcases p.ff b o e with z | z
      · exact ok.g0 b o (ok.fg b o z)
      · exact .inr (ok.h1 b z)
    · exact ok.g0 b o e
/-- behind a call with seen arguments -/
theorem post_mix [pj : PureJ S] (ok : OkB S B g H j) (p : FPost S g.G g.A H F' A' H' j') : Le g ⟨g.F, F', A'⟩ ∧ OkB S B ⟨g.F, F', A'⟩ H' j' := by
  obtain ⟨b1, b2, b3, b4⟩ := post_base ok p
  refine ⟨⟨Same.refl _, p.sub, fun b o e => .inl e⟩, ⟨ok.fg.trans p.sub, p.fh, p.fa, pj.pu p.jr, ok.f0, fun b o e => ?_, b2, b3, b4, p.sm⟩⟩
  rcases p.ff b o e with z | z
  · exact ok.g0 b o z
  · exact .inr (ok.h1 b z)
end
/-- a call with frozen arguments: what is raised goes on -/
def eCall (φ : Fv J) (fa : Av J) (m : Sd) (j : J) (P : D → J → Prop) (E : XP J) : Prop := fa m j (fun xs j1 => φ xs j1 P (fun e j' => E e m j')) E
/-- with arguments that are seen: nothing is raised -/
def eCallM (φ : Fv J) (fa : Av J) (m : Sd) (j : J) (P : D → J → Prop) (E : XP J) : Prop := fa m j (fun xs j1 => φ xs j1 P (fun _ _ => False)) E
instance {φ : Fv J} {fa : Av J} [hf : MoF φ] [ha : MoA fa] : MoE (eCall φ fa) := ⟨fun h q x => ha.mo h (fun _ _ p => hf.mo p q fun _ _ => x _ _ _) x⟩
instance {φ : Fv J} {fa : Av J} [hf : MoF φ] [ha : MoA fa] : MoE (eCallM φ fa) := ⟨fun h q x => ha.mo h (fun _ _ p => hf.mo p q fun _ _ z => z) x⟩
section
variable {S : Js J} {B : Bs} {M : Nat → Bool} {W : WX} {X : Cx} {e a b c : Expr} {es : List Expr} {pos p : Pos} {f fa fb fc : Ev J} {fr : Av J} {x : Str} {φ : Fv J} {k n : Nat} {fn : Addr} {fd : FuncData} {ps : List Str}
theorem tCall_rd (hφ : ∀ ds j P E, φ ds j P E → ds.length = n) {R : St} {H : Hp} {Q : VK} (h : rdE S B M W .clean (eCall φ fr) R H Q) : tCallS (spF S n φ) (WE W) (rdA S B M W true fr) R H Q := by
  obtain ⟨g, m, j, P, E, ok, hf, q, xo⟩ := h
  refine ⟨g, m, j, _, E, ok, hf, fun xs j1 g1 vs H1 p1 l1 ok1 w1 => ?_, xo⟩
  refine ⟨g1.F, g1.A, j1, xs, P, _, ok1.b.fg.trans ok1.b.gh, fun b o e => ok1.b.ga b o (ok1.b.fg b o e), ok1.b.jr, ok1.b.sm, w1, hφ _ _ _ _ p1, p1, fun d j' F' A' H' v pd pp rv => ?_, fun e j' F' A' H' cls dx pe pp rv => ?_⟩
  · obtain ⟨l2, ok2⟩ := post_clean ok1.b pp
    exact q d j' _ v H' pd (l1.trans l2) ⟨ok2, ok1.s.le l2⟩ rv
  · obtain ⟨l2, ok2⟩ := post_clean ok1.b pp
    exact xo e m j' _ R H' cls dx pe (l1.trans l2).f ⟨ok2, ok1.s.le l2⟩ rv
theorem tCallM_rd [PureJ S] (hφ : ∀ ds j P E, φ ds j P E → ds.length = n) {R : St} {H : Hp} {Q : VK} (h : rdE S B M W .mix (eCallM φ fr) R H Q) : tCallS (spF S n φ) (WE W) (rdA S B M W false fr) R H Q := by
  obtain ⟨g, m, j, P, E, ok, hf, q, xo⟩ := h
  refine ⟨g, m, j, _, E, ok, hf, fun xs j1 g1 vs H1 p1 l1 ok1 w1 => ?_, xo⟩
  refine ⟨g1.G, g1.A, j1, xs, P, _, ok1.b.gh, ok1.b.ga, S.frame ok1.b.jr ok1.b.fg fun _ _ => rfl, ok1.b.sm, w1, hφ _ _ _ _ p1, p1, fun d j' F' A' H' v pd pp rv => ?_, fun e j' F' A' H' cls dx pe pp rv => pe.elim⟩
  obtain ⟨l2, ok2⟩ := post_mix ok1.b pp
  exact q d j' _ v H' pd (l1.trans l2) ⟨ok2, ok1.s.le l2⟩ rv
theorem e_call (F : FnG X.prog X.w X.K X.mg X.base (L2.CX X.prog X.w) k fn fd ps (spF S n φ)) (tk : Takes X W) (hr : Room k X.A) (hgd : X.A.guards = some []) (hg : Gl X x) (hm : X.mg x = some (.ref fn)) (hk : PySem.W.keepIn X.K (.ref fn) = true) (hb : Binds X.K fd ps [])
    (hφ : ∀ ds j P E, φ ds j P E → ds.length = n) (ha : PA X (e :: es) (rdA S B M W true fr)) (hdb : (x == ("__debug__" : Str)) = false) (he : starEach (e :: es) X.env = (false, eval e X.env) :: starEach es X.env) (hpl : (backTo pos (starEach es X.env)).any (·.1) = false) :
    PE X (.Call (.Name x p) (e :: es) [] pos) (rdE S B M W .clean (eCall φ fr)) := PE.imp (pe_callGS F hr hgd hg hm hk hb (passAt tk) ha hdb he hpl) fun _ _ _ h => tCall_rd hφ h
theorem e_callM [PureJ S] (F : FnG X.prog X.w X.K X.mg X.base (L2.CX X.prog X.w) k fn fd ps (spF S n φ)) (tk : Takes X W) (hr : Room k X.A) (hgd : X.A.guards = some []) (hg : Gl X x) (hm : X.mg x = some (.ref fn)) (hk : PySem.W.keepIn X.K (.ref fn) = true) (hb : Binds X.K fd ps [])
    (hφ : ∀ ds j P E, φ ds j P E → ds.length = n) (ha : PA X (e :: es) (rdA S B M W false fr)) (hdb : (x == ("__debug__" : Str)) = false) (he : starEach (e :: es) X.env = (false, eval e X.env) :: starEach es X.env) (hpl : (backTo pos (starEach es X.env)).any (·.1) = false) :
    PE X (.Call (.Name x p) (e :: es) [] pos) (rdE S B M W .mix (eCallM φ fr)) := PE.imp (pe_callGS F hr hgd hg hm hk hb (passAt tk) ha hdb he hpl) fun _ _ _ h => tCallM_rd hφ h
theorem e_call0 (F : FnG X.prog X.w X.K X.mg X.base (L2.CX X.prog X.w) k fn fd ps (spF S n φ)) (tk : Takes X W) (hr : Room k X.A) (hgd : X.A.guards = some []) (hg : Gl X x) (hm : X.mg x = some (.ref fn)) (hk : PySem.W.keepIn X.K (.ref fn) = true) (hb : Binds X.K fd ps [])
    (hφ : ∀ ds j P E, φ ds j P E → ds.length = n) (hdb : (x == ("__debug__" : Str)) = false) :
    PE X (.Call (.Name x p) [] [] pos) (rdE S B M W .clean (eCall φ aNil)) := PE.imp (pe_callGS0 F hr hgd hg hm hk hb (passAt tk) hdb) fun R H Q h => by
  have h2 := tCall_rd hφ h
  obtain ⟨g, m, j, P, E, ok, hf, q, xo⟩ := h2
  exact q _ _ g [] H hf (Le.refl g) ok .nil
end

/-! ### statements -/
inductive Fl | next | brk | cnt | ret (d : D)
abbrev Sv (J : Type) := Sd → J → (Fl → Sd → J → Prop) → XP J → Prop
class MoS (f : Sv J) : Prop where
  mo : ∀ {m : Sd} {j : J} {P P' : Fl → Sd → J → Prop} {E E' : XP J}, f m j P E → (∀ l m' j', P l m' j' → P' l m' j') → (∀ e m' j', E e m' j' → E' e m' j') → f m j P' E'
section
variable (S : Js J) (B : Bs) (M : Nat → Bool)
def EndS (g : Gh) (E : Ends) : Fl → Sd → J → Prop
  | .next, m', j' => ∀ g' r' H', Same g.F g'.F → Ok S B g' M r' H' m' j' → E.nx r' H'
  | .brk, m', j' => ∀ g' r' H', Same g.F g'.F → Ok S B g' M r' H' m' j' → E.bk r' H'
  | .cnt, m', j' => ∀ g' r' H', Same g.F g'.F → Ok S B g' M r' H' m' j' → E.ct r' H'
  | .ret d, _, j' => ∀ g' H' v, OkB S B g' H' j' → Rp S g'.G d v → E.rt v H'
def rdS (W : WX) (f : Sv J) : TS := fun En r H => ∃ g m j P E, Ok S B g M r H m j ∧ f m j P E ∧ (∀ fl m' j', P fl m' j' → EndS S B M g En fl m' j') ∧ XOut S B M W g E
end
/-! combinators -/
def sNil (m : Sd) (j : J) (P : Fl → Sd → J → Prop) (E : XP J) : Prop := P .next m j
/-- what follows a statement -/
def thenS (f2 : Sv J) (P : Fl → Sd → J → Prop) (E : XP J) : Fl → Sd → J → Prop
  | .next, m, j => f2 m j P E
  | .brk, m, j => P .brk m j
  | .cnt, m, j => P .cnt m j
  | .ret d, m, j => P (.ret d) m j
def sSeq (f1 f2 : Sv J) (m : Sd) (j : J) (P : Fl → Sd → J → Prop) (E : XP J) : Prop := f1 m j (thenS f2 P E) E
def sExpr (fe : Ev J) (m : Sd) (j : J) (P : Fl → Sd → J → Prop) (E : XP J) : Prop := fe m j (fun _ j1 => P .next m j1) E
def sBrk (m : Sd) (j : J) (P : Fl → Sd → J → Prop) (E : XP J) : Prop := P .brk m j
def sCnt (m : Sd) (j : J) (P : Fl → Sd → J → Prop) (E : XP J) : Prop := P .cnt m j
def sNever (m : Sd) (j : J) (P : Fl → Sd → J → Prop) (E : XP J) : Prop := False
def sRet (fe : Ev J) (m : Sd) (j : J) (P : Fl → Sd → J → Prop) (E : XP J) : Prop := fe m j (fun d j1 => P (.ret d) m j1) E
def sRetN (m : Sd) (j : J) (P : Fl → Sd → J → Prop) (E : XP J) : Prop := P (.ret .non) m j
def sIf (tc : Tv J) (f1 f2 : Sv J) (m : Sd) (j : J) (P : Fl → Sd → J → Prop) (E : XP J) : Prop := tc m j (fun b j1 => if b = true then f1 m j1 P E else f2 m j1 P E) E
def sSet (i : Nat) (fe : Ev J) (m : Sd) (j : J) (P : Fl → Sd → J → Prop) (E : XP J) : Prop := fe m j (fun d j1 => P .next (m.set i (some d)) j1) E
def sAsg (γ : Gv) (fe : Ev J) (m : Sd) (j : J) (P : Fl → Sd → J → Prop) (E : XP J) : Prop := fe m j (fun d j1 => ∃ m1, γ d m = some m1 ∧ P .next m1 j1) E
/-- x += e, x -= e (ints) -/
def sAug (φ : D → D → Option D) (i : Nat) (fe : Ev J) (m : Sd) (j : J) (P : Fl → Sd → J → Prop) (E : XP J) : Prop := ∃ x, m[i]? = some (some x) ∧ fe m j (fun y j1 => ∃ z, φ x y = some z ∧ P .next (m.set i (some z)) j1) E
def addI : D → D → Option D
  | .int i, .int k => some (.int (i + k))
  | _, _ => none
def subI : D → D → Option D
  | .int i, .int k => some (.int (i - k))
  | _, _ => none
/-- what follows a turn of a loop -/
def turnS (N : Sd → J → Prop) (P : Fl → Sd → J → Prop) : Fl → Sd → J → Prop
  | .next, m, j => N m j
  | .cnt, m, j => N m j
  | .brk, m, j => P .next m j
  | .ret d, m, j => P (.ret d) m j
def whW (tc : Tv J) (fb : Sv J) : Nat → Sd → J → (Fl → Sd → J → Prop) → XP J → Prop
  | 0, _, _, _, _ => False
  | n + 1, m, j, P, E => tc m j (fun b j1 => if b = true then fb m j1 (turnS (fun m1 j2 => whW tc fb n m1 j2 P E) P) E else P .next m j1) E
def sWhile (tc : Tv J) (fb : Sv J) (m : Sd) (j : J) (P : Fl → Sd → J → Prop) (E : XP J) : Prop := ∃ n, whW tc fb n m j P E
def forW (γ : Gv) (fb : Sv J) : List D → Sd → J → (Fl → Sd → J → Prop) → XP J → Prop
  | [], m, j, P, E => P .next m j
  | d :: ds, m, j, P, E => ∃ m1, γ d m = some m1 ∧ fb m1 j (turnS (fun m2 j2 => forW γ fb ds m2 j2 P E) P) E
def sFor (fi : Iv J) (γ : Gv) (fb : Sv J) (m : Sd) (j : J) (P : Fl → Sd → J → Prop) (E : XP J) : Prop := fi m j (fun ds j1 => forW γ fb ds m j1 P E) E
section
variable {f f1 f2 : Sv J} {fe : Ev J} {tc : Tv J} {γ : Gv} {φ : D → D → Option D} {i : Nat} {fi : Iv J}
theorem thenS_mo {P P' : Fl → Sd → J → Prop} {E E' : XP J} [h2 : MoS f2] (q : ∀ l m' j', P l m' j' → P' l m' j') (x : ∀ e m' j', E e m' j' → E' e m' j') : ∀ l m j, thenS f2 P E l m j → thenS f2 P' E' l m j
  | .next, _, _, h => h2.mo h q x
  | .brk, _, _, h => q _ _ _ h
  | .cnt, _, _, h => q _ _ _ h
  | .ret _, _, _, h => q _ _ _ h
theorem turnS_mo {N N' : Sd → J → Prop} {P P' : Fl → Sd → J → Prop} (n : ∀ m j, N m j → N' m j) (q : ∀ l m' j', P l m' j' → P' l m' j') : ∀ l m j, turnS N P l m j → turnS N' P' l m j
  | .next, _, _, h => n _ _ h
  | .brk, _, _, h => q _ _ _ h
  | .cnt, _, _, h => n _ _ h
  | .ret _, _, _, h => q _ _ _ h
instance : MoS (sNil (J := J)) := ⟨fun h q x => q _ _ _ h⟩
instance [h1 : MoS f1] [h2 : MoS f2] : MoS (sSeq f1 f2) := ⟨fun h q x => h1.mo h (thenS_mo q x) x⟩
instance [h1 : MoE fe] : MoS (sExpr fe) := ⟨fun h q x => h1.mo h (fun _ _ p => q _ _ _ p) x⟩
instance : MoS (sBrk (J := J)) := ⟨fun h q x => q _ _ _ h⟩
instance : MoS (sCnt (J := J)) := ⟨fun h q x => q _ _ _ h⟩
instance : MoS (sNever (J := J)) := ⟨fun h q x => h⟩
instance [h1 : MoE fe] : MoS (sRet fe) := ⟨fun h q x => h1.mo h (fun _ _ p => q _ _ _ p) x⟩
instance : MoS (sRetN (J := J)) := ⟨fun h q x => q _ _ _ h⟩
instance [hc : MoT tc] [h1 : MoS f1] [h2 : MoS f2] : MoS (sIf tc f1 f2) := ⟨fun h q x => hc.mo h (fun _ _ p => ite_mono p (fun p => h1.mo p q x) fun p => h2.mo p q x) x⟩
instance [h1 : MoE fe] : MoS (sSet i fe) := ⟨fun h q x => h1.mo h (fun _ _ p => q _ _ _ p) x⟩
instance [h1 : MoE fe] : MoS (sAsg γ fe) := ⟨fun h q x => h1.mo h (fun _ _ ⟨m, e, p⟩ => ⟨m, e, q _ _ _ p⟩) x⟩
instance [h1 : MoE fe] : MoS (sAug φ i fe) := ⟨fun ⟨y, e, h⟩ q x => ⟨y, e, h1.mo h (fun _ _ ⟨m, e, p⟩ => ⟨m, e, q _ _ _ p⟩) x⟩⟩
theorem whW_mo {fb : Sv J} [hc : MoT tc] [hb : MoS fb] : ∀ {n k : Nat} {m : Sd} {j : J} {P P' : Fl → Sd → J → Prop} {E E' : XP J}, whW tc fb n m j P E → n ≤ k → (∀ l m' j', P l m' j' → P' l m' j') → (∀ e m' j', E e m' j' → E' e m' j') → whW tc fb k m j P' E'
  | 0, _, _, _, _, _, _, _, h, _, _, _ => h.elim
  | n + 1, 0, _, _, _, _, _, _, _, l, _, _ => absurd l (Nat.not_succ_le_zero _)
  | n + 1, k + 1, _, _, _, _, _, _, h, l, q, x => hc.mo h (fun _ _ p => ite_mono p (fun p => hb.mo p (turnS_mo (fun _ _ p => whW_mo p (Nat.le_of_succ_le_succ l) q x) q) x) (q _ _ _)) x
instance {fb : Sv J} [hc : MoT tc] [hb : MoS fb] : MoS (sWhile tc fb) := ⟨fun ⟨n, h⟩ q x => ⟨n, whW_mo h (Nat.le_refl _) q x⟩⟩
theorem forW_mo {fb : Sv J} [hb : MoS fb] : ∀ {ds : List D} {m : Sd} {j : J} {P P' : Fl → Sd → J → Prop} {E E' : XP J}, forW γ fb ds m j P E → (∀ l m' j', P l m' j' → P' l m' j') → (∀ e m' j', E e m' j' → E' e m' j') → forW γ fb ds m j P' E'
  | [], _, _, _, _, _, _, h, q, _ => q _ _ _ h
  | _ :: _, _, _, _, _, _, _, ⟨m1, e, h⟩, q, x => ⟨m1, e, hb.mo h (turnS_mo (fun _ _ p => forW_mo p q x) q) x⟩
instance {fb : Sv J} [hi : MoA fi] [hb : MoS fb] : MoS (sFor fi γ fb) := ⟨fun h q x => hi.mo h (fun _ _ p => forW_mo p q x) x⟩
end
section
variable {S : Js J} {B : Bs} {M : Nat → Bool} {W : WX} {X : Cx} {e a b c tg : Expr} {st : Stmt} {rest body body' : List Stmt} {pos p : Pos} {f fa fb fc fe : Ev J} {fs fs' : Sv J} {tc : Tv J}
theorem EndS.mono {g g' : Gh} {E : Ends} : ∀ {fl : Fl} {m : Sd} {j : J}, EndS S B M g E fl m j → Same g.F g'.F → EndS S B M g' E fl m j
  | .next, _, _, h, l => fun g2 r H l2 ok => h g2 r H (l.trans l2) ok
  | .brk, _, _, h, l => fun g2 r H l2 ok => h g2 r H (l.trans l2) ok
  | .cnt, _, _, h, l => fun g2 r H l2 ok => h g2 r H (l.trans l2) ok
  | .ret d, _, _, h, l => h
theorem s_nil : PSs X [] (rdS S B M W sNil) := PSs.imp pss_nil fun E r H ⟨g, m, j, P, Ep, ok, hf, q, xo⟩ => q _ _ _ hf g r H (Same.refl _) ok
theorem s_cons (h1 : PS X st (rdS S B M W fs)) (h2 : PSs X rest (rdS S B M W fs')) : PSs X (st :: rest) (rdS S B M W (sSeq fs fs')) :=
  PSs.imp (pss_cons h1 h2) fun E r H ⟨g, m, j, P, Ep, ok, hf, q, xo⟩ => by
    refine ⟨g, m, j, _, Ep, ok, hf, fun fl m' j' p => ?_, xo⟩
    cases fl with
    | next => exact fun g' r' H' l ok' => ⟨g', m', j', P, Ep, ok', p, fun fl2 m2 j2 p2 => (q _ _ _ p2).mono l, xo.le l⟩
    | brk => exact q _ _ _ p
    | cnt => exact q _ _ _ p
    | ret d => exact q _ _ _ p
theorem s_expr {k : Cl} (he : PE X e (rdE S B M W k fe)) (hs : swapsWith e none pos.line X.env = pure false) : PS X (.Expr e pos) (rdS S B M W (sExpr fe)) :=
  PS.imp (ps_expr he hs) fun E r H ⟨g, m, j, P, Ep, ok, hf, q, xo⟩ => ⟨g, m, j, _, Ep, ok, hf, fun d j1 g' v H' p l ok' w => q _ _ _ p g' r H' l.f ok', xo⟩
theorem s_doc {x : Str} {j' : Nat} {pos' : Pos} : PS X (.Expr (.Constant (.str x) j' pos) pos') (rdS S B M W sNil) := PS.imp ps_doc fun E r H ⟨g, m, j, P, Ep, ok, hf, q, xo⟩ => q _ _ _ hf g r H (Same.refl _) ok
theorem s_pass : PS X (.Pass pos) (rdS S B M W sNil) := PS.imp ps_pass fun E r H ⟨g, m, j, P, Ep, ok, hf, q, xo⟩ => q _ _ _ hf g r H (Same.refl _) ok
theorem s_break : PS X (.Break pos) (rdS S B M W sBrk) := PS.imp ps_break fun E r H ⟨g, m, j, P, Ep, ok, hf, q, xo⟩ => q _ _ _ hf g r H (Same.refl _) ok
theorem s_continue : PS X (.Continue pos) (rdS S B M W sCnt) := PS.imp ps_continue fun E r H ⟨g, m, j, P, Ep, ok, hf, q, xo⟩ => q _ _ _ hf g r H (Same.refl _) ok
theorem s_never : PS X st (rdS S B M W sNever) := PS.imp ps_never fun E r H ⟨g, m, j, P, Ep, ok, hf, q, xo⟩ => hf.elim
theorem s_ret {k : Cl} (he : PE X e (rdE S B M W k fe)) : PS X (.Return (some e) pos) (rdS S B M W (sRet fe)) :=
  PS.imp (ps_ret he) fun E r H ⟨g, m, j, P, Ep, ok, hf, q, xo⟩ => ⟨g, m, j, _, Ep, ok, hf, fun d j1 g' v H' p l ok' w => q _ _ _ p g' H' v ok'.b (w.mix ok'.b.fg), xo⟩
theorem s_retN : PS X (.Return none pos) (rdS S B M W sRetN) := PS.imp ps_retN fun E r H ⟨g, m, j, P, Ep, ok, hf, q, xo⟩ => q _ _ _ hf g H .non ok.b .non
theorem s_if (hc : PT X c (rdT S B M W tc)) (ha : PSs X body (rdS S B M W fs)) (hb : PSs X body' (rdS S B M W fs')) : PS X (.If c body body' pos) (rdS S B M W (sIf tc fs fs')) :=
  PS.imp (ps_if hc ha hb) fun E r H ⟨g, m, j, P, Ep, ok, hf, q, xo⟩ => ⟨g, m, j, _, Ep, ok, hf, fun b j1 g1 H1 p l1 ok1 => ite_mono p (fun p => ⟨g1, m, _, P, Ep, ok1, p, fun fl m' j' p => (q _ _ _ p).mono l1.f, xo.le l1.f⟩) fun p => ⟨g1, m, _, P, Ep, ok1, p, fun fl m' j' p => (q _ _ _ p).mono l1.f, xo.le l1.f⟩, xo⟩
/-! assignments -/
theorem sSet_rd {i : Nat} {t : TE} (hM : M i = false) (ht : ∀ r H Q, rdE S B M W .clean fe r H Q → t r H Q) {E : Ends} {r : St} {H : Hp} (h : rdS S B M W (sSet i fe) E r H) : tAsg t (gName i) E r H := by
  obtain ⟨g, m, j, P, Ep, ok, hf, q, xo⟩ := h
  exact ht _ _ _ ⟨g, m, j, _, Ep, ok, hf, fun d j1 g' v H' p l ok' w => q _ _ _ p g' _ H' l.f ⟨ok'.b, ok'.s.set_fr hM w⟩, xo⟩
theorem sSetO_rd {i : Nat} {t : TE} (hM : M i = true) (ht : ∀ r H Q, rdE S B M W .fresh fe r H Q → t r H Q) {E : Ends} {r : St} {H : Hp} (h : rdS S B M W (sSet i fe) E r H) : tAsg t (gName i) E r H := by
  obtain ⟨g, m, j, P, Ep, ok, hf, q, xo⟩ := h
  refine ht _ _ _ ⟨g, m, j, _, Ep, ok, hf, fun d j1 g' v H' p l ok' w => ?_, xo⟩
  obtain ⟨a, rfl, n, o⟩ := w
  refine q _ _ _ p g' _ H' l.f ⟨ok'.b, ok'.s.set_ow hM o fun k e hk hMk he z => ?_⟩
  exact (ok.s.apart_fresh (i := i) n) k e hk hMk he z
theorem s_set {i : Nat} {x : Str} {pos' : Pos} (hM : M i = false) (hN : X.N.Nodup) (hi : X.N[i]? = some x) (hx : Loc X.env.scope x) (he : PE X e (rdE S B M W .clean fe)) (hs : swapsWith e (some (.Name x pos')) pos.line X.env = pure false) (hf : X.fn x = true ∨ X.env.scope.names.lookup x = some .local) :
    PS X (.Assign [.Name x pos'] e pos) (rdS S B M W (sSet i fe)) := PS.imp (ps_set hN hi hx he hs hf) fun E r H h => sSet_rd hM (fun _ _ _ z => z) h
theorem s_setO {i : Nat} {x : Str} {pos' : Pos} (hM : M i = true) (hN : X.N.Nodup) (hi : X.N[i]? = some x) (hx : Loc X.env.scope x) (he : PE X e (rdE S B M W .fresh fe)) (hs : swapsWith e (some (.Name x pos')) pos.line X.env = pure false) (hf : X.fn x = true ∨ X.env.scope.names.lookup x = some .local) :
    PS X (.Assign [.Name x pos'] e pos) (rdS S B M W (sSet i fe)) := PS.imp (ps_set hN hi hx he hs hf) fun E r H h => sSetO_rd hM (fun _ _ _ z => z) h
theorem s_asg {γ : Gv} {ks : List Nat} (he : PE X e (rdE S B M W .clean fe)) (hg : PG X tg (rdG S B M false ks γ)) (hs : swapsWithSole [tg] e pos.line X.env = pure false) (hw : swappedStores [tg] e X.env = pure none)
    (h1 : (assignEach [tg] X.env).map (·.2) = [assign tg X.env]) : PS X (.Assign [tg] e pos) (rdS S B M W (sAsg γ fe)) :=
  PS.imp (ps_asg he hg hs hw h1) fun E r H ⟨g, m, j, P, Ep, ok, hf, q, xo⟩ =>
    ⟨g, m, j, _, Ep, ok, hf, fun d j1 g' v H' ⟨m1, h2, p⟩ l ok' w => ⟨g', m, _, _, _, ok', .inl w, h2, fun r' ok'' _ _ => q _ _ _ p g' r' H' l.f ok''⟩, xo⟩
theorem s_aug {op : Operator} {h : Int → Int → Int} {φ : D → D → Option D} {i : Nat} {x : Str} {pos' : Pos} (hφ : ∀ d e z, φ d e = some z → ∃ a b, d = .int a ∧ e = .int b ∧ z = .int (h a b)) (ho : PIp X op (ipI h)) (hM : M i = false) (hN : X.N.Nodup) (hi : X.N[i]? = some x) (hx : Loc X.env.scope x)
    (he : PE X e (rdE S B M W .mix fe)) (hf : X.fn x = true ∨ X.env.scope.names.lookup x = some .local) : PS X (.AugAssign (.Name x pos') op e pos) (rdS S B M W (sAug φ i fe)) :=
  PS.imp (ps_aug hN hi hx he ho hf) fun E r H ⟨g, m, j, P, Ep, ok, ⟨d0, h0, hf⟩, q, xo⟩ => by
    obtain ⟨v0, e1, e2⟩ := ok.s.fr i _ h0 hM
    refine ⟨v0, e1, g, m, j, _, Ep, ok, hf, fun y j1 g' v H' ⟨z, h2, p⟩ l ok' w => ?_, xo⟩
    obtain ⟨a, b, rfl, rfl, rfl⟩ := hφ _ _ _ h2
    exact ⟨a, b, int_of e2, int_of w, q _ _ _ p g' _ H' l.f ⟨ok'.b, ok'.s.set_fr hM (.int _)⟩⟩
end

/-! ### while, for -/
section
variable {S : Js J} {B : Bs} {M : Nat → Bool} {W : WX} {X : Cx} {c tg iter : Expr} {body : List Stmt} {pos : Pos} {tc : Tv J} {fb : Sv J} {fi : Iv J} {γ : Gv} {ks : List Nat} {w : Bool}
theorem s_while (hp : PassesOwn (model X.prog X.w) X.A X.env X.xe) (hc : PT X c (rdT S B M W tc)) (hb : PSs X body (rdS S B M W fb)) : PS X (.While c body [] pos) (rdS S B M W (sWhile tc fb)) :=
  PS.imp (ps_while hp hc hb) fun E r H ⟨g, m, j, P, Ep, ok, ⟨n, hn⟩, q, xo⟩ => by
    refine ⟨fun k r H => ∃ g1 m1 j1, Same g.F g1.F ∧ Ok S B g1 M r H m1 j1 ∧ whW tc fb k m1 j1 P Ep, ⟨n, g, m, j, Same.refl _, ok, hn⟩, ?_⟩
    rintro k r1 H1 ⟨g1, m1, j1, l1, ok1, hk⟩
    cases k with
    | zero => exact hk.elim
    | succ k =>
      refine ⟨g1, m1, j1, _, Ep, ok1, hk, fun b j2 g2 H2 p l2 ok2 => ite_mono p (fun p => ?_) (fun p => q _ _ _ p g2 _ H2 (l1.trans l2.f) ok2), xo.le l1⟩
      refine ⟨fun r3 H3 => ∃ g3 m3 j3, Same g.F g3.F ∧ Ok S B g3 M r3 H3 m3 j3 ∧ whW tc fb k m3 j3 P Ep, fun r3 H3 h3 => ⟨k, Nat.lt_succ_self _, h3⟩, ?_⟩
      refine ⟨g2, m1, _, _, Ep, ok2, p, fun fl m3 j3 p => ?_, xo.le (l1.trans l2.f)⟩
      cases fl with
      | next => exact fun g4 r4 H4 l4 ok4 => ⟨g4, m3, j3, (l1.trans l2.f).trans l4, ok4, p⟩
      | cnt => exact fun g4 r4 H4 l4 ok4 => ⟨g4, m3, j3, (l1.trans l2.f).trans l4, ok4, p⟩
      | brk => exact fun g4 r4 H4 l4 ok4 => q _ _ _ p g4 r4 H4 ((l1.trans l2.f).trans l4) ok4
      | ret d => exact q _ _ _ p
theorem s_for (hp : PassesOwn (model X.prog X.w) X.A X.env X.xe) (hc : X.calm = true) (hi : PI X tg iter (rdI S B M W true w fi)) (hg : PG X tg (rdG S B M w ks γ)) (hb : PSs X body (rdS S B M W fb)) (hs : ∀ x, foldedSetIterable iter X.env x = pure x) :
    PS X (.For tg iter body [] pos) (rdS S B M W (sFor fi γ fb)) :=
  PS.imp (ps_for hp hc hi hg hb hs) fun E r H ⟨g, m, j, P, Ep, ok, hf, q, xo⟩ => by
    refine ⟨g, m, j, _, Ep, ok, hf, fun ds j1 g1 H1 Jt hf l1 ok1 wk => ?_, xo⟩
    refine for_it wk (fun i r H => ∃ g2 m2 j2, Same g1.F g2.F ∧ Ok S B g2 M r H m2 j2 ∧ forW γ fb (ds.drop i) m2 j2 P Ep) ⟨g1, m, j1, Same.refl _, ok1, by rw [List.drop_zero]; exact hf⟩ ?_ ?_ ?_
    · rintro i r2 H2 hi ⟨g2, m2, j2, l2, ok2, h2⟩
      exact l2.trans (ok2.b.fg.trans ok2.b.gh)
    · rintro i y r2 H2 H2' hi ⟨g2, m2, j2, l2, ok2, h2⟩ ⟨dd, hdd, yy⟩
      have hdrop : ds.drop i = dd :: ds.drop (i + 1) := by
        obtain ⟨hlt, he⟩ := List.getElem?_eq_some_iff.mp hdd
        rw [List.drop_eq_getElem_cons hlt, he]
      rw [hdrop] at h2
      obtain ⟨m3, hm3, h2⟩ := h2
      have item : ∃ g3, Le g2 g3 ∧ Ok S B g3 M r2 H2' m2 j2 ∧ RpX S g3.F w dd y := by
        rcases yy with ⟨rfl, rp⟩ | ⟨hw, T, vs, es, rfl, hT, rfl, rfl, rl⟩ | ⟨T, o, vs, es, rfl, hT, hdo, rfl, rfl, rl⟩
        · exact ⟨g2, Le.refl _, ok2, .inl (rp.mono l2)⟩
        · obtain ⟨t1, t2, t3, t4⟩ := ok2.b.hn hT
          exact ⟨_, Le.frz ok2.b.fg t2, ⟨ok2.b.frz _ hT, ok2.s.le (Le.frz ok2.b.fg t2)⟩, .inr ⟨hw, T, vs, es, rfl, upd_same, rfl, (rl.mono l2).mono (same_new t1)⟩⟩
        · obtain ⟨t1, t2, t3, t4⟩ := ok2.b.hn hT
          exact ⟨_, Le.frz ok2.b.fg t2, ⟨ok2.b.frz _ hT, ok2.s.le (Le.frz ok2.b.fg t2)⟩, .inl (.tup (.inl ⟨o, upd_same, hdo⟩) ((rl.mono l2).mono (same_new t1)))⟩
      obtain ⟨g3, l3, ok3, rp3⟩ := item
      refine ⟨g3, m2, j2, dd, m3, ok3, rp3, hm3, fun r4 ok4 len4 k4 => ?_⟩
      have l23 := l2.trans l3.f
      refine ⟨g3, m3, j2, _, Ep, ok4, h2, fun fl m5 j5 p => ?_, xo.le (l1.f.trans l23)⟩
      cases fl with
      | next => exact fun g6 r6 H6 l6 ok6 => ⟨g6, m5, j5, l23.trans l6, ok6, p⟩
      | cnt => exact fun g6 r6 H6 l6 ok6 => ⟨g6, m5, j5, l23.trans l6, ok6, p⟩
      | brk => exact fun g6 r6 H6 l6 ok6 => q _ _ _ p g6 r6 H6 ((l1.f.trans l23).trans l6) ok6
      | ret d => exact q _ _ _ p
    · rintro r2 H2 ⟨g2, m2, j2, l2, ok2, h2⟩
      rw [List.drop_length] at h2
      exact q _ _ _ h2 g2 r2 H2 (l1.f.trans l2) ok2
end
end Mp

/-! Mp8: stores into owned lists; two and three names at once; t.index(x); defs. -/
namespace Mp
open PySem PySem.Spec L2
open PyProof.Rows hiding St
variable {J : Type}

/-- the owned thing at a is written -/
def Gh.put (g : Gh) (a : Addr) (o : HO) : Gh := ⟨g.F, upd g.G a o, g.A⟩
section
variable {S : Js J} {B : Bs} {M : Nat → Bool} {X : Cx} {g : Gh} {H : Hp} {j : J} {a : Addr} {r : St} {m : Sd} {i : Nat} {d d' : D}
theorem OkB.own0 (k : OkB S B g H j) {o : HO} (hF : g.F a = none) (hG : g.G a = some o) : B.H0 a = none := by
  rcases k.g0 a o hG with z | z
  · have := k.f0 a o z
    rw [hF] at this; cases this
  · exact z
theorem OkB.put (k : OkB S B g H j) {o o' : HO} (hF : g.F a = none) (hG : g.G a = some o') (ho : ∀ x y, o' ≠ .frz x y) : OkB S B (g.put a o) (upd H a o) j := by
  have h0 := k.own0 hF hG
  refine ⟨fun b u e => ?_, same_upd k.gh, fun b u e => ?_, S.frame k.jr (Same.refl _) fun b z => upd_ne fun q => k.ga a o' hG (q ▸ z), k.f0, fun b u e => ?_, k.a0, fun b u e n => ?_, fun b e => ?_, ?_⟩
  · show upd g.G a o b = some u
    rw [upd_ne (ne_of_none e hF)]; exact k.fg b u e
  · have e' : upd g.G a o b = some u := e
    by_cases hb : b = a
    · subst hb; exact k.ga b o' hG
    · rw [upd_ne hb] at e'; exact k.ga b u e'
  · have e' : upd g.G a o b = some u := e
    by_cases hb : b = a
    · subst hb; exact .inr h0
    · rw [upd_ne hb] at e'; exact k.g0 b u e'
  · rw [upd_ne (ne_of_none e h0)]; exact k.h0 b u e n
  · by_cases hb : b = a
    · subst hb; rw [upd_same] at e; cases e
    · rw [upd_ne hb] at e; exact k.h1 b e
  · obtain ⟨o1, u1, e1⟩ := k.sm
    refine ⟨o1, u1, ?_⟩
    rw [upd_ne fun z => ho o1 u1 (by have := k.gh _ _ hG; rw [← z, e1] at this; exact (Option.some.inj this).symm)]
    exact e1
theorem Own.putO {b : Addr} {o : HO} (h : Own S g d b) (hb : b ≠ a) : Own S (g.put a o) d b := by
  obtain ⟨n, ⟨ds, vs, rfl, e, t⟩ | ⟨kds, kvs, rfl, e, l, t⟩⟩ := h
  · exact ⟨n, .inl ⟨ds, vs, rfl, by show upd g.G a o b = _; rw [upd_ne hb]; exact e, t⟩⟩
  · exact ⟨n, .inr ⟨kds, kvs, rfl, by show upd g.G a o b = _; rw [upd_ne hb]; exact e, l, t⟩⟩
theorem Slots.put (h : Slots S g M r m) (hM : M i = true) (hm : m[i]? = some (some d)) (hr : r[i]? = some (some (.ref a))) {o : HO} (ow : Own S (g.put a o) d' a) : Slots S (g.put a o) M r (m.set i (some d')) := by
  have hi : i < m.length := (List.getElem?_eq_some_iff.mp hm).1
  have get : ∀ {k : Nat} {e : D}, (m.set i (some d'))[k]? = some (some e) → (k = i ∧ e = d') ∨ (k ≠ i ∧ m[k]? = some (some e)) := fun {k e} q => by
    by_cases hk : k = i
    · subst hk
      rw [List.getElem?_set_self hi] at q
      cases q
      exact .inl ⟨rfl, rfl⟩
    · rw [List.getElem?_set_ne (Ne.symm hk)] at q
      exact .inr ⟨hk, q⟩
  have old : ∀ {k : Nat} {e : D}, (m.set i (some d'))[k]? = some (some e) → ∃ e', m[k]? = some (some e') := fun {k e} q => by
    rcases get q with ⟨rfl, rfl⟩ | ⟨_, q⟩
    · exact ⟨_, hm⟩
    · exact ⟨_, q⟩
  refine ⟨by rw [List.length_set]; exact h.len, fun k e q hk => ?_, fun k e q hk => ?_, fun k l b e e' q1 q2 hk hl h1 h2 => ?_⟩
  · rcases get q with ⟨rfl, rfl⟩ | ⟨hn, q⟩
    · rw [hM] at hk; cases hk
    · exact h.fr k e q hk
  · rcases get q with ⟨rfl, rfl⟩ | ⟨hn, q⟩
    · exact ⟨a, hr, ow⟩
    · obtain ⟨b, h1, h2⟩ := h.ow k e q hk
      exact ⟨b, h1, h2.putO fun z => hn (h.dj k i a e d q hm hk hM (z ▸ h1) hr)⟩
  · obtain ⟨x, q1⟩ := old q1
    obtain ⟨y, q2⟩ := old q2
    exact h.dj k l b x y q1 q2 hk hl h1 h2
end

def sApp (i : Nat) (fe : Ev J) (m : Sd) (j : J) (P : Fl → Sd → J → Prop) (E : XP J) : Prop :=
  ∃ xs, m[i]? = some (some (.lst xs)) ∧ fe m j (fun d j1 => xs.length < LINE ∧ P .next (m.set i (some (.lst (xs ++ [d])))) j1) E
def sExt (i : Nat) (fe : Ev J) (m : Sd) (j : J) (P : Fl → Sd → J → Prop) (E : XP J) : Prop :=
  ∃ xs, m[i]? = some (some (.lst xs)) ∧ fe m j (fun d j1 => ∃ ys, d = .lst ys ∧ xs.length + ys.length ≤ LINE ∧ P .next (m.set i (some (.lst (xs ++ ys)))) j1) E
/-- i[k] = e -/
def sSetIx (i : Nat) (fk fe : Ev J) (m : Sd) (j : J) (P : Fl → Sd → J → Prop) (E : XP J) : Prop :=
  ∃ xs, m[i]? = some (some (.lst xs)) ∧ fe m j (fun d j1 => fk m j1 (fun kk j2 => ∃ k n, kk = .int k ∧ ixN xs.length k = some n ∧ P .next (m.set i (some (.lst (xs.set n d)))) j2) E) E
/-- i.append(k.pop(e)) -/
def sAppPop (i k : Nat) (fe : Ev J) (m : Sd) (j : J) (P : Fl → Sd → J → Prop) (E : XP J) : Prop :=
  ∃ xs ys, m[i]? = some (some (.lst xs)) ∧ m[k]? = some (some (.lst ys)) ∧ i ≠ k ∧ fe m j (fun d j1 => ∃ n y, d = .int n ∧ 0 ≤ n ∧ n < (ys.length : Int) ∧ xs.length < LINE ∧ ys.length ≤ LINE ∧ ys[n.toNat]? = some y ∧
    P .next ((m.set k (some (.lst (ys.eraseIdx n.toNat)))).set i (some (.lst (xs ++ [y])))) j1) E
/-- γ = i.pop() -/
def sPopTo (i : Nat) (γ : Gv) (m : Sd) (j : J) (P : Fl → Sd → J → Prop) (E : XP J) : Prop :=
  ∃ xs y m1, m[i]? = some (some (.lst xs)) ∧ xs.getLast? = some y ∧ γ y (m.set i (some (.lst xs.dropLast))) = some m1 ∧ P .next m1 j
section
variable {i k : Nat} {f1 f2 f3 : Ev J} {γ : Gv}
instance [h1 : MoE f1] : MoS (sApp i f1) := ⟨fun ⟨xs, e, h⟩ q x => ⟨xs, e, h1.mo h (fun _ _ ⟨l, p⟩ => ⟨l, q _ _ _ p⟩) x⟩⟩
instance [h1 : MoE f1] : MoS (sExt i f1) := ⟨fun ⟨xs, e, h⟩ q x => ⟨xs, e, h1.mo h (fun _ _ ⟨ys, e, l, p⟩ => ⟨ys, e, l, q _ _ _ p⟩) x⟩⟩
instance [h1 : MoE f1] [h2 : MoE f2] : MoS (sSetIx i f1 f2) := ⟨fun ⟨xs, e, h⟩ q x => ⟨xs, e, h2.mo h (fun _ _ p => h1.mo p (fun _ _ ⟨k, n, e, l, p⟩ => ⟨k, n, e, l, q _ _ _ p⟩) x) x⟩⟩
instance [h1 : MoE f1] : MoS (sAppPop i k f1) := ⟨fun ⟨xs, ys, e1, e2, n, h⟩ q x => ⟨xs, ys, e1, e2, n, h1.mo h (fun _ _ ⟨n, y, a1, a2, a3, a4, a5, a6, p⟩ => ⟨n, y, a1, a2, a3, a4, a5, a6, q _ _ _ p⟩) x⟩⟩
instance : MoS (sPopTo (J := J) i γ) := ⟨fun ⟨xs, y, m1, a, b, c, p⟩ q x => ⟨xs, y, m1, a, b, c, q _ _ _ p⟩⟩
end
section
variable {S : Js J} {B : Bs} {M : Nat → Bool} {W : WX} {X : Cx} {e ek a b c tg : Expr} {pos p ap np : Pos} {fe fk : Ev J} {i k : Nat} {x y : Str}
theorem own_lst {g : Gh} {xs : List D} {a : Addr} (h : Own S g (.lst xs) a) : g.F a = none ∧ ∃ vs, g.G a = some (.lst vs) ∧ RpL S g.F xs vs := by
  obtain ⟨n, ⟨ds, vs, e, e2, t⟩ | ⟨kds, kvs, e, _⟩⟩ := h
  · cases e; exact ⟨n, vs, e2, t⟩
  · cases e
/-- the facts of a method's call on a name -/
structure MtN (X : Cx) (i : Nat) (x : Str) : Prop where
  n : X.N[i]? = some x
  v : Vis X.env.scope x
  d : (x == ("__debug__" : Str)) = false
  c : (x == ("__classdict__" : Str)) = false
theorem MtN.pe (h : MtN X i x) {q : Pos} : PE X (.Name x q) (tVar i) := pe_var h.n h.v h.d h.c
theorem s_app (hM : M i = true) (hx : MtN X i x) (he : PE X e (rdE S B M W .clean fe)) (hl : (ap.endLine == p.line) = true) (hs : starEach [e] X.env = [(false, eval e X.env)])
    (hb : attributeBase (.Name x np) "append" X.env (eval (.Name x np) X.env) = eval (.Name x np) X.env) (hf : ((backTo p (starEach [e] X.env)).all (fun x => !x.1) && (backToKw p (keywordEach [] X.env)).all (fun x => x.1.isSome)
      && decide (([e] : List Expr).length + ([] : List Keyword).length + (if ([] : List Keyword).isEmpty then 0 else 1) < 30)) = true) (hsw : swapsWith (.Call (.Attribute (.Name x np) "append" ap) [e] [] p) none pos.line X.env = pure false) :
    PS X (.Expr (.Call (.Attribute (.Name x np) "append" ap) [e] [] p) pos) (rdS S B M W (sApp i fe)) :=
  PS.imp (ps_expr (pe_bm PySem.F.plainAttrs_list PySem.F.slot_list_append PySem.F.type_list_append mt_append hx.pe (pa_cons he pa_nil hs) hb hf hl hs rfl) hsw) fun E r H ⟨g, m, j, P, Ep, ok, ⟨xs, hm, hf⟩, q, xo⟩ => by
    obtain ⟨a, hr, ho⟩ := ok.s.ow i _ hm hM
    obtain ⟨_, vs0, hG0, _⟩ := own_lst ho
    refine ⟨_, hr, .inl ⟨rfl, _, .of (ok.b.gh _ _ hG0)⟩, g, m, j, _, Ep, ok, hf, fun d j1 g1 v H1 ⟨hlen, p⟩ l1 ok1 w => ?_, xo⟩
    obtain ⟨hF, vs, hG, t⟩ := own_lst (ho.le l1)
    refine ⟨a, vs, v, rfl, rfl, ok1.b.gh _ _ hG, by rw [← t.length]; exact Nat.lt_of_lt_of_le hlen line_ok, ?_⟩
    refine q _ _ _ p (g1.put a (.lst (vs ++ [v]))) r _ l1.f ⟨ok1.b.put hF hG (by intro x y z; cases z), ok1.s.put hM hm hr ⟨hF, .inl ⟨_, _, rfl, upd_same, t.append (.cons w .nil)⟩⟩⟩
theorem s_ext (hM : M i = true) (hx : MtN X i x) (he : PE X e (rdE S B M W .clean fe)) (hl : (ap.endLine == p.line) = true) (hs : starEach [e] X.env = [(false, eval e X.env)])
    (hb : attributeBase (.Name x np) "extend" X.env (eval (.Name x np) X.env) = eval (.Name x np) X.env) (hf : ((backTo p (starEach [e] X.env)).all (fun x => !x.1) && (backToKw p (keywordEach [] X.env)).all (fun x => x.1.isSome)
      && decide (([e] : List Expr).length + ([] : List Keyword).length + (if ([] : List Keyword).isEmpty then 0 else 1) < 30)) = true) (hsw : swapsWith (.Call (.Attribute (.Name x np) "extend" ap) [e] [] p) none pos.line X.env = pure false) :
    PS X (.Expr (.Call (.Attribute (.Name x np) "extend" ap) [e] [] p) pos) (rdS S B M W (sExt i fe)) :=
  PS.imp (ps_expr (pe_bm PySem.F.plainAttrs_list PySem.F.slot_list_extend PySem.F.type_list_extend mt_extend hx.pe (pa_cons he pa_nil hs) hb hf hl hs rfl) hsw) fun E r H ⟨g, m, j, P, Ep, ok, ⟨xs, hm, hf⟩, q, xo⟩ => by
    obtain ⟨a, hr, ho⟩ := ok.s.ow i _ hm hM
    obtain ⟨_, vs0, hG0, _⟩ := own_lst ho
    refine ⟨_, hr, .inl ⟨rfl, _, .of (ok.b.gh _ _ hG0)⟩, g, m, j, _, Ep, ok, hf, fun d j1 g1 v H1 hh l1 ok1 w => ?_, xo⟩
    obtain ⟨ys, rfl, hlen, p⟩ := hh
    obtain ⟨hF, vs, hG, t⟩ := own_lst (ho.le l1)
    obtain ⟨b, ws, rfl, hb, rb⟩ := lst_of w
    refine ⟨a, b, vs, ws, rfl, rfl, ok1.b.gh _ _ hG, (ok1.b.fg.trans ok1.b.gh) _ _ hb, by rw [← t.length, ← rb.length]; exact Nat.le_trans hlen line_ok, ?_⟩
    refine q _ _ _ p (g1.put a (.lst (vs ++ ws))) r _ l1.f ⟨ok1.b.put hF hG (by intro x y z; cases z), ok1.s.put hM hm hr ⟨hF, .inl ⟨_, _, rfl, upd_same, t.append rb⟩⟩⟩
theorem ixN_lt {n : Nat} {k : Int} {l : Nat} (h : ixN n k = some l) : l < n := by
  unfold ixN at h
  split at h
  · split at h
    · cases h; omega
    · cases h
  · split at h
    · cases h; omega
    · cases h
theorem s_setIx (hM : M i = true) (hx : MtN X i x) (he : PE X e (rdE S B M W .clean fe)) (hk : PE X ek (rdE S B M W .mix fk)) (hs : swapsWithSole [.Subscript (.Name x np) ek p] e pos.line X.env = pure false) (hw : swappedStores [.Subscript (.Name x np) ek p] e X.env = pure none)
    (h1 : (assignEach [.Subscript (.Name x np) ek p] X.env).map (·.2) = [assign (.Subscript (.Name x np) ek p) X.env])
    (ha : ∀ v, assign (.Subscript (.Name x np) ek p) X.env v = (do
      let ov ← holding [v] (eval (.Name x np) X.env)
      let iv ← holding [v, ov] (eval ek X.env)
      standAt p
      holding [v, ov, iv] (setItem ov iv v)
      release [v, ov, iv] [])) :
    PS X (.Assign [.Subscript (.Name x np) ek p] e pos) (rdS S B M W (sSetIx i fk fe)) :=
  PS.imp (ps_asg he (pg_sub hx.pe hk set_list ha) hs hw h1) fun E r H ⟨g, m, j, P, Ep, ok, ⟨xs, hm, hf⟩, q, xo⟩ => by
    obtain ⟨a, hr, ho⟩ := ok.s.ow i _ hm hM
    refine ⟨g, m, j, _, Ep, ok, hf, fun d j1 g1 v H1 h1 l1 ok1 w => ⟨_, hr, g1, m, _, _, Ep, ok1, h1, fun kd j2 g2 v2 H2 hh l2 ok2 w2 => ?_, xo.le l1.f⟩, xo⟩
    obtain ⟨kk, n, rfl, h4, p⟩ := hh
    obtain ⟨hF, vs, hG, t⟩ := own_lst (ho.le (l1.trans l2))
    refine ⟨a, vs, kk, n, rfl, int_of w2, ok2.b.gh _ _ hG, by rw [← t.length]; exact h4, ?_⟩
    refine q _ _ _ p (g2.put a (.lst (vs.set n v))) r _ (l1.trans l2).f ⟨ok2.b.put hF hG (by intro x y z; cases z), ok2.s.put hM hm hr ⟨hF, .inl ⟨_, _, rfl, upd_same, t.set (Rp.mono l2.f w) n⟩⟩⟩
theorem seqIx {n : Int} {l : Nat} (h0 : 0 ≤ n) (h1 : n < (l : Int)) : seqIndex? n l = some n.toNat := by
  unfold seqIndex?
  have : ¬ n < 0 := by omega
  simp [this, h0, h1]
theorem s_appPop (hMi : M i = true) (hMk : M k = true) (hx : MtN X i x) (hy : MtN X k y) {ap2 np2 p2 : Pos} (he : PE X e (rdE S B M W .mix fe)) (hl : (ap.endLine == p.line) = true) (hl2 : (ap2.endLine == p2.line) = true)
    (hs : starEach [.Call (.Attribute (.Name y np2) "pop" ap2) [e] [] p2] X.env = [(false, eval (.Call (.Attribute (.Name y np2) "pop" ap2) [e] [] p2) X.env)]) (hs2 : starEach [e] X.env = [(false, eval e X.env)])
    (hb : attributeBase (.Name x np) "append" X.env (eval (.Name x np) X.env) = eval (.Name x np) X.env) (hb2 : attributeBase (.Name y np2) "pop" X.env (eval (.Name y np2) X.env) = eval (.Name y np2) X.env)
    (hf : ((backTo p (starEach [.Call (.Attribute (.Name y np2) "pop" ap2) [e] [] p2] X.env)).all (fun x => !x.1) && (backToKw p (keywordEach [] X.env)).all (fun x => x.1.isSome)
      && decide (([.Call (.Attribute (.Name y np2) "pop" ap2) [e] [] p2] : List Expr).length + ([] : List Keyword).length + (if ([] : List Keyword).isEmpty then 0 else 1) < 30)) = true)
    (hf2 : ((backTo p2 (starEach [e] X.env)).all (fun x => !x.1) && (backToKw p2 (keywordEach [] X.env)).all (fun x => x.1.isSome)
      && decide (([e] : List Expr).length + ([] : List Keyword).length + (if ([] : List Keyword).isEmpty then 0 else 1) < 30)) = true)
    (hsw : swapsWith (.Call (.Attribute (.Name x np) "append" ap) [.Call (.Attribute (.Name y np2) "pop" ap2) [e] [] p2] [] p) none pos.line X.env = pure false) :
    PS X (.Expr (.Call (.Attribute (.Name x np) "append" ap) [.Call (.Attribute (.Name y np2) "pop" ap2) [e] [] p2] [] p) pos) (rdS S B M W (sAppPop i k fe)) :=
  PS.imp (ps_expr (pe_bm PySem.F.plainAttrs_list PySem.F.slot_list_append PySem.F.type_list_append mt_append hx.pe
    (pa_cons (pe_bm PySem.F.plainAttrs_list PySem.F.slot_list_pop PySem.F.type_list_pop mt_popAt hy.pe (pa_cons he pa_nil hs2) hb2 hf2 hl2 hs2 rfl) pa_nil hs) hb hf hl hs rfl) hsw) fun E r H ⟨g, m, j, P, Ep, ok, ⟨xs, ys, hmi, hmk, c5, hf⟩, q, xo⟩ => by
    obtain ⟨a, hri, hoi⟩ := ok.s.ow i _ hmi hMi
    obtain ⟨b, hrk, hok⟩ := ok.s.ow k _ hmk hMk
    obtain ⟨_, vs0, hG0, _⟩ := own_lst hoi
    obtain ⟨_, ws0, hGk0, _⟩ := own_lst hok
    refine ⟨_, hri, .inl ⟨rfl, _, .of (ok.b.gh _ _ hG0)⟩, _, hrk, .inl ⟨rfl, _, .of (ok.b.gh _ _ hGk0)⟩, g, m, j, _, Ep, ok, hf, fun d j1 g1 v H1 hh l1 ok1 w => ?_, xo⟩
    obtain ⟨n, yy, rfl, c1, c2, c3, c4, h4, p⟩ := hh
    have hab : a ≠ b := fun z => c5 (ok.s.dj i k a _ _ hmi hmk hMi hMk hri (z ▸ hrk))
    obtain ⟨hFk, ws, hGk, tk⟩ := own_lst (hok.le l1)
    obtain ⟨wy, hwy, ry⟩ := tk.get h4
    have hlen := tk.length
    refine ⟨b, ws, n, n.toNat, wy, rfl, by rw [int_of w], ok1.b.gh _ _ hGk, by omega, by have : LINE = 1000000 := rfl; omega, by rw [← hlen]; exact seqIx c1 c2, hwy, ?_⟩
    have ok2 : OkB S B (g1.put b (.lst (ws.eraseIdx n.toNat))) (upd H1 b (.lst (ws.eraseIdx n.toNat))) j1 := ok1.b.put hFk hGk (by intro x y z; cases z)
    have sl2 : Slots S (g1.put b (.lst (ws.eraseIdx n.toNat))) M r (m.set k (some (.lst (ys.eraseIdx n.toNat)))) := ok1.s.put hMk hmk hrk ⟨hFk, .inl ⟨_, _, rfl, upd_same, tk.eraseIdx _⟩⟩
    have hmi2 : (m.set k (some (.lst (ys.eraseIdx n.toNat))))[i]? = some (some (.lst xs)) := by rw [List.getElem?_set_ne (Ne.symm c5)]; exact hmi
    obtain ⟨hF, vs, hG, t⟩ := own_lst ((hoi.le l1).putO (o := .lst (ws.eraseIdx n.toNat)) hab)
    refine ⟨a, vs, wy, rfl, rfl, ok2.gh _ _ hG, by rw [← t.length]; exact Nat.lt_of_lt_of_le c3 line_ok, ?_⟩
    exact q _ _ _ p ((g1.put b (.lst (ws.eraseIdx n.toNat))).put a (.lst (vs ++ [wy]))) r _ l1.f ⟨ok2.put hF hG (by intro x y z; cases z), sl2.put hMi hmi2 hri ⟨hF, .inl ⟨_, _, rfl, upd_same, t.append (.cons ry .nil)⟩⟩⟩
theorem s_popTo {γ : Gv} {ks : List Nat} {ap2 np2 : Pos} (hM : M i = true) (hx : MtN X i x) (hg : PG X tg (rdG S B M false ks γ)) (hl : (ap.endLine == p.line) = true) (hb : attributeBase (.Name x np) "pop" X.env (eval (.Name x np) X.env) = eval (.Name x np) X.env)
    (hs : swapsWithSole [tg] (.Call (.Attribute (.Name x np) "pop" ap) [] [] p) pos.line X.env = pure false) (hw : swappedStores [tg] (.Call (.Attribute (.Name x np) "pop" ap) [] [] p) X.env = pure none)
    (h1 : (assignEach [tg] X.env).map (·.2) = [assign tg X.env]) : PS X (.Assign [tg] (.Call (.Attribute (.Name x np) "pop" ap) [] [] p) pos) (rdS S B M W (sPopTo i γ)) :=
  PS.imp (ps_asg (pe_bm0 PySem.F.plainAttrs_list PySem.F.slot_list_pop PySem.F.type_list_pop mt_pop hx.pe hb hl) hg hs hw h1) fun E r H ⟨g, m, j, P, Ep, ok, hf, q, xo⟩ => by
    obtain ⟨xs, y, m1, hm, h3, h4, p⟩ := hf
    obtain ⟨a, hr, ho⟩ := ok.s.ow i _ hm hM
    obtain ⟨hF, vs, hG, t⟩ := own_lst ho
    rw [List.getLast?_eq_getElem?] at h3
    obtain ⟨wy, hwy, ry⟩ := t.get h3
    refine ⟨_, hr, .inl ⟨rfl, _, .of (ok.b.gh _ _ hG)⟩, a, vs, wy, rfl, rfl, ok.b.gh _ _ hG, by rw [← t.length]; exact hwy, ?_⟩
    have ok2 : OkB S B (g.put a (.lst vs.dropLast)) (upd H a (.lst vs.dropLast)) j := ok.b.put hF hG (by intro x y z; cases z)
    have sl2 : Slots S (g.put a (.lst vs.dropLast)) M r (m.set i (some (.lst xs.dropLast))) := ok.s.put hM hm hr ⟨hF, .inl ⟨_, _, rfl, upd_same, t.dropLast⟩⟩
    exact ⟨_, _, j, _, _, ⟨ok2, sl2⟩, .inl ry, h4, fun r' ok' _ _ => q _ _ _ p (g.put a (.lst vs.dropLast)) r' _ (Same.refl _) ok'⟩
end

/-! ### two and three names at once -/
def clOf (M : Nat → Bool) (i : Nat) : Cl := if M i then .fresh else .clean
def sPr2 (i k : Nat) (fa fb : Ev J) (m : Sd) (j : J) (P : Fl → Sd → J → Prop) (E : XP J) : Prop := fa m j (fun x j1 => fb m j1 (fun y j2 => P .next ((m.set i (some x)).set k (some y)) j2) E) E
def sPr3 (i k l : Nat) (fa fb fc : Ev J) (m : Sd) (j : J) (P : Fl → Sd → J → Prop) (E : XP J) : Prop := fa m j (fun x j1 => fb m j1 (fun y j2 => fc m j2 (fun z j3 => P .next (((m.set i (some x)).set k (some y)).set l (some z)) j3) E) E) E
instance {i k : Nat} {f1 f2 : Ev J} [h1 : MoE f1] [h2 : MoE f2] : MoS (sPr2 i k f1 f2) := ⟨fun h q x => h1.mo h (fun _ _ h => h2.mo h (fun _ _ p => q _ _ _ p) x) x⟩
instance {i k l : Nat} {f1 f2 f3 : Ev J} [h1 : MoE f1] [h2 : MoE f2] [h3 : MoE f3] : MoS (sPr3 i k l f1 f2 f3) := ⟨fun h q x => h1.mo h (fun _ _ h => h2.mo h (fun _ _ h => h3.mo h (fun _ _ p => q _ _ _ p) x) x) x⟩
section
variable {S : Js J} {B : Bs} {M : Nat → Bool} {W : WX} {X : Cx} {g0 g g' : Gh} {r : St} {m : Sd} {i k l : Nat} {d : D} {v : V}
/-- no owned slot holds v -/
def Apt (M : Nat → Bool) (r : St) (m : Sd) (v : V) : Prop := ∀ k e, M k = true → m[k]? = some (some e) → r[k]? ≠ some (some v)
theorem Slots.setC (h : Slots S g M r m) (w : Val S g0 g (clOf M i) d v) (ap : M i = true → Apt M r m v) : Slots S g M (r.set i (some v)) (m.set i (some d)) := by
  unfold clOf at w
  cases hM : M i with
  | false => rw [hM] at w; exact h.set_fr hM w
  | true =>
    rw [hM] at w
    obtain ⟨a, rfl, n, o⟩ := w
    exact h.set_ow hM o fun k e _ hk he => ap hM k e hk he
theorem Slots.apt (h : Slots S g M r m) {w : Cl} (v' : Val S g g' .fresh d v) : Apt M r m v := fun k e hk he z => by
  obtain ⟨a, rfl, n, _⟩ := v'
  exact (h.apart_fresh (i := k + 1) n) k e (by omega) hk he z
theorem apt_set {r : St} {m : Sd} {v : V} (h : Apt M r m v) {i : Nat} {d : D} {u : V} (n : M i = true → u ≠ v) : Apt M (r.set i (some u)) (m.set i (some d)) v := fun k e hk he z => by
  by_cases hki : k = i
  · subst hki
    have hl : k < m.length := by
      have := (List.getElem?_eq_some_iff.mp he).1
      simpa using this
    by_cases hr : k < r.length
    · rw [List.getElem?_set_self hr] at z
      cases z
      exact n hk rfl
    · rw [List.getElem?_eq_none (by simpa using hr)] at z
      cases z
  · rw [List.getElem?_set_ne (Ne.symm hki)] at he z
    exact h k e hk he z
theorem val_in (h : Val S g0 g .fresh d v) : ∃ a o, v = .ref a ∧ g.G a = some o := by
  obtain ⟨a, rfl, _, o⟩ := h
  obtain ⟨ob, e⟩ := o.in_g
  exact ⟨a, ob, rfl, e⟩
theorem clOf_fresh (hM : M i = true) (h : Val S g0 g (clOf M i) d v) : Val S g0 g .fresh d v := by
  unfold clOf at h; rw [hM] at h; exact h
variable {a b c : Expr} {fa fb fc : Ev J} {pos px py pz pt pt2 : Pos} {kt k2 : Nat} {x y z : Str}
theorem s_pr2 (hc : X.calm = true) (hN : X.N.Nodup) (hi : X.N[i]? = some x) (hk : X.N[k]? = some y) (hik : i ≠ k) (hx : X.env.scope.names.lookup x = some .local) (hy : X.env.scope.names.lookup y = some .local)
    (ha : PE X a (rdE S B M W (clOf M i) fa)) (hb : PE X b (rdE S B M W (clOf M k) fb)) (hs1 : starEach [a, b] X.env = (false, eval a X.env) :: starEach [b] X.env) (hs2 : starEach [b] X.env = [(false, eval b X.env)])
    (hw : swappedStores [.Tuple [.Name x px, .Name y py] kt pt] (.Tuple [a, b] k2 pt2) X.env = pure (some [x, y]))
    (hs : swapsWithSole [.Tuple [.Name x px, .Name y py] kt pt] (.Tuple [a, b] k2 pt2) pos.line X.env = pure false) :
    PS X (.Assign [.Tuple [.Name x px, .Name y py] kt pt] (.Tuple [a, b] k2 pt2) pos) (rdS S B M W (sPr2 i k fa fb)) :=
  PS.imp (ps_par hc hN hi hk hik hx hy (pa_cons ha (pa_cons hb pa_nil hs2) hs1) hw hs) fun E r H ⟨g, m, j, P, Ep, ok, hf, q, xo⟩ => by
    refine ⟨g, m, j, _, Ep, ok, hf, fun _ j1 g1 v1 H1 h1 l1 ok1 w1 => ⟨g1, m, _, _, Ep, ok1, h1, fun _ j2 g2 v2 H2 p l2 ok2 w2 => ⟨v1, v2, rfl, ?_⟩, xo.le l1.f⟩, xo⟩
    refine q _ _ _ p g2 _ H2 (l1.trans l2).f ⟨ok2.b, (ok2.s.setC (w1.le l2) fun hM => ok.s.apt (w := .fresh) (clOf_fresh hM w1)).setC w2 fun hM => apt_set (ok1.s.apt (w := .fresh) (clOf_fresh hM w2)) fun hMi => ?_⟩
    obtain ⟨a1, o1, rfl, e1⟩ := val_in (clOf_fresh hMi w1)
    obtain ⟨a2, rfl, n2, _⟩ := clOf_fresh hM w2
    intro z
    cases z
    rw [n2] at e1; cases e1
theorem s_pr3 (hc : X.calm = true) (hN : X.N.Nodup) (hi : X.N[i]? = some x) (hk : X.N[k]? = some y) (hl : X.N[l]? = some z) (hik : i ≠ k) (hil : i ≠ l) (hkl : k ≠ l) (hx : X.env.scope.names.lookup x = some .local) (hy : X.env.scope.names.lookup y = some .local) (hz : X.env.scope.names.lookup z = some .local)
    (ha : PE X a (rdE S B M W (clOf M i) fa)) (hb : PE X b (rdE S B M W (clOf M k) fb)) (hcc : PE X c (rdE S B M W (clOf M l) fc)) (hs1 : starEach [a, b, c] X.env = (false, eval a X.env) :: starEach [b, c] X.env) (hs2 : starEach [b, c] X.env = (false, eval b X.env) :: starEach [c] X.env) (hs3 : starEach [c] X.env = [(false, eval c X.env)])
    (hw : swappedStores [.Tuple [.Name x px, .Name y py, .Name z pz] kt pt] (.Tuple [a, b, c] k2 pt2) X.env = pure (some [x, y, z]))
    (hs : swapsWithSole [.Tuple [.Name x px, .Name y py, .Name z pz] kt pt] (.Tuple [a, b, c] k2 pt2) pos.line X.env = pure false) :
    PS X (.Assign [.Tuple [.Name x px, .Name y py, .Name z pz] kt pt] (.Tuple [a, b, c] k2 pt2) pos) (rdS S B M W (sPr3 i k l fa fb fc)) :=
  PS.imp (ps_par3 hc hN hi hk hl hik hil hkl hx hy hz (pa_cons ha (pa_cons hb (pa_cons hcc pa_nil hs3) hs2) hs1) hw hs) fun E r H ⟨g, m, j, P, Ep, ok, hf, q, xo⟩ => by
    refine ⟨g, m, j, _, Ep, ok, hf, fun _ j1 g1 v1 H1 h1 l1 ok1 w1 => ⟨g1, m, _, _, Ep, ok1, h1, fun _ j2 g2 v2 H2 h2 l2 ok2 w2 => ⟨g2, m, _, _, Ep, ok2, h2, fun _ j3 g3 v3 H3 p l3 ok3 w3 => ⟨v1, v2, v3, rfl, ?_⟩, xo.le (l1.trans l2).f⟩, xo.le l1.f⟩, xo⟩
    have d12 : M i = true → M k = true → v1 ≠ v2 := fun hMi hM => by
      obtain ⟨a1, o1, rfl, e1⟩ := val_in (clOf_fresh hMi w1)
      obtain ⟨a2, rfl, n2, _⟩ := clOf_fresh hM w2
      intro z
      cases z
      rw [n2] at e1; cases e1
    have d13 : M i = true → M l = true → v1 ≠ v3 := fun hMi hM => by
      obtain ⟨a1, o1, rfl, e1⟩ := val_in (clOf_fresh hMi (w1.le l2))
      obtain ⟨a2, rfl, n2, _⟩ := clOf_fresh hM w3
      intro z
      cases z
      rw [n2] at e1; cases e1
    have d23 : M k = true → M l = true → v2 ≠ v3 := fun hMi hM => by
      obtain ⟨a1, o1, rfl, e1⟩ := val_in (clOf_fresh hMi w2)
      obtain ⟨a2, rfl, n2, _⟩ := clOf_fresh hM w3
      intro z
      cases z
      rw [n2] at e1; cases e1
    refine q _ _ _ p g3 _ H3 ((l1.trans l2).trans l3).f ⟨ok3.b, ?_⟩
    refine ((ok3.s.setC ((w1.le l2).le l3) fun hM => ok.s.apt (w := .fresh) (clOf_fresh hM w1)).setC (w2.le l3) fun hM => apt_set (ok1.s.apt (w := .fresh) (clOf_fresh hM w2)) fun hMi => d12 hMi hM).setC w3 fun hM => ?_
    exact apt_set (apt_set (ok2.s.apt (w := .fresh) (clOf_fresh hM w3)) fun hMi => d13 hMi hM) fun hMk => d23 hMk hM
end
end Mp

/-! Mp9: list(range(..)), tuple(range(..)); xs.index(i); x = [.. for ..] at once; defs; the law's end. -/
namespace Mp
open PySem PySem.Spec L2
open PyProof.Rows hiding St
variable {J : Type}

def eLrg (fi : Iv J) (m : Sd) (j : J) (P : D → J → Prop) (E : XP J) : Prop := fi m j (fun ds j1 => ds.length ≤ LINE ∧ P (.lst ds) j1) E
def eTrg (fi : Iv J) (m : Sd) (j : J) (P : D → J → Prop) (E : XP J) : Prop := fi m j (fun ds j1 => ds.length ≤ LINE ∧ P (.tup ds) j1) E
instance {fi : Iv J} [h : MoA fi] : MoE (eLrg fi) := ⟨fun p q x => h.mo p (fun _ _ ⟨l, p⟩ => ⟨l, q _ _ p⟩) x⟩
instance {fi : Iv J} [h : MoA fi] : MoE (eTrg fi) := ⟨fun p q x => h.mo p (fun _ _ ⟨l, p⟩ => ⟨l, q _ _ p⟩) x⟩
section
variable {S : Js J} {B : Bs} {M : Nat → Bool} {W : WX} {X : Cx} {e a b c : Expr} {pos p q0 q1 : Pos} {fa fb : Ev J}
theorem rg_eq (lo hi : Int) : rngD lo (hi - lo).toNat = ((List.range (hi - lo).toNat).map fun i : Nat => lo + (i : Nat)).map D.int := by
  unfold rngD; rw [List.map_map]; rfl
theorem rgV_eq (lo hi : Int) : rgV lo hi = ((List.range (hi - lo).toNat).map fun i : Nat => lo + (i : Nat)).map V.int := by
  unfold rgV; rw [List.map_map]; rfl
theorem rg_rp {F : Hp} (lo hi : Int) : RpL S F (rngD lo (hi - lo).toNat) (rgV lo hi) := by
  rw [rg_eq, rgV_eq]; exact RpL.ints _
theorem rg_ok {lo hi : Int} (h1 : -LIM ≤ lo) (h2 : lo ≤ LIM) (h3 : -LIM ≤ hi) (h4 : hi ≤ LIM) (hl : (rngD lo (hi - lo).toNat).length ≤ LINE) : RgOk lo hi := by
  rw [rngD_length] at hl
  have e1 : LIM = 2 ^ 61 := rfl
  have e2 : LINE = 1000000 := rfl
  rw [e1] at h1 h2 h3 h4
  rw [e2] at hl
  exact ⟨by omega, by omega, by omega, by omega, by omega⟩
theorem lrg_end {g1 g : Gh} {r : St} {H1 : Hp} {m : Sd} {j1 : J} {lo hi : Int} {Q : VK} (l1 : Le g g1) (ok1 : Ok S B g1 M r H1 m j1)
    (q : ∀ g' v H', Le g g' → Ok S B g' M r H' m j1 → Val S g g' .fresh (.lst (rngD lo (hi - lo).toNat)) v → Q v H') : ∀ p, H1 p = none → Q (.ref p) (upd H1 p (.lst (rgV lo hi))) := fun p hp => by
  obtain ⟨n1, n2, n3, n4⟩ := ok1.b.hn hp
  exact q (g1.see p (.lst (rgV lo hi))) _ _ (l1.trans (Le.see n2)) ⟨ok1.b.see _ hp, ok1.s.le (Le.see n2)⟩ ⟨p, rfl, l1.g.free n2, n1, .inl ⟨_, _, rfl, upd_same, rg_rp lo hi⟩⟩
theorem trg_end {g1 g : Gh} {r : St} {H1 : Hp} {m : Sd} {j1 : J} {lo hi : Int} {Q : VK} (l1 : Le g g1) (ok1 : Ok S B g1 M r H1 m j1)
    (q : ∀ g' v H', Le g g' → Ok S B g' M r H' m j1 → Val S g g' .clean (.tup (rngD lo (hi - lo).toNat)) v → Q v H') : NewT H1 (rgV lo hi) Q := fun p o hp hd => by
  obtain ⟨n1, n2, n3, n4⟩ := ok1.b.hn hp
  exact q (g1.frz p (.frz o (.tup (rgV lo hi)))) _ _ (l1.trans (Le.frz ok1.b.fg n2)) ⟨ok1.b.frz _ hp, ok1.s.le (Le.frz ok1.b.fg n2)⟩ (Rp.tup (.inl ⟨o, upd_same, hd⟩) (rg_rp lo hi))
theorem e_lrg1 (hc : X.calm = true) (hgl : Gl X "list") (hml : X.mg "list" = none) (hg : Gl X "range") (hm : X.mg "range" = none) (ha : PE X a (rdE S B M W .mix fa)) (hs : starEach [a] X.env = [(false, eval a X.env)])
    (hs2 : starEach [.Call (.Name "range" p) [a] [] pos] X.env = [(false, eval (.Call (.Name "range" p) [a] [] pos) X.env)]) :
    PE X (.Call (.Name "list" q0) [.Call (.Name "range" p) [a] [] pos] [] q1) (rdE S B M W .fresh (eLrg (iRng1 fa))) :=
  PE.imp (pe_listRg hc hgl hml (prg_1 hg hm ha hs) hs2) fun r H Q ⟨g, m, j, P, E, ok, hf, q, xo⟩ => by
    refine ⟨g, m, j, _, E, ok, hf, fun d j1 g1 v H1 hh l1 ok1 w => ?_, xo⟩
    obtain ⟨n, rfl, c1, c2, hl, p⟩ := hh
    have e0 : n.toNat = (n - 0).toNat := by omega
    rw [e0] at hl p
    have hL : LIM = 2 ^ 61 := rfl
    exact ⟨n, int_of w, rg_ok (by omega) (by omega) c1 c2 hl, lrg_end l1 ok1 fun g' v H' => q _ _ g' v H' p⟩
theorem e_lrg2 (hc : X.calm = true) (hgl : Gl X "list") (hml : X.mg "list" = none) (hg : Gl X "range") (hm : X.mg "range" = none) (ha : PE X a (rdE S B M W .mix fa)) (hb : PE X b (rdE S B M W .mix fb)) (hs : starEach [a, b] X.env = (false, eval a X.env) :: starEach [b] X.env) (hs1 : starEach [b] X.env = [(false, eval b X.env)])
    (hp : (backTo pos (starEach [b] X.env)).any (·.1) = false) (hs2 : starEach [.Call (.Name "range" p) [a, b] [] pos] X.env = [(false, eval (.Call (.Name "range" p) [a, b] [] pos) X.env)]) :
    PE X (.Call (.Name "list" q0) [.Call (.Name "range" p) [a, b] [] pos] [] q1) (rdE S B M W .fresh (eLrg (iRng2 fa fb))) :=
  PE.imp (pe_listRg hc hgl hml (prg_2 hg hm ha hb hs hs1 hp) hs2) fun r H Q ⟨g, m, j, P, E, ok, hf, q, xo⟩ => by
    refine ⟨g, m, j, _, E, ok, hf, fun d j1 g1 v H1 h1 l1 ok1 w => ⟨g1, m, _, _, E, ok1, h1, fun d2 j2 g2 v2 H2 hh l2 ok2 w2 => ?_, xo.le l1.f⟩, xo⟩
    obtain ⟨lo, hi, rfl, rfl, c1, c2, c3, c4, hl, p⟩ := hh
    exact ⟨lo, hi, int_of w, int_of w2, rg_ok c1 c2 c3 c4 hl, lrg_end (l1.trans l2) ok2 fun g' v H' => q _ _ g' v H' p⟩
theorem e_trg1 (hc : X.calm = true) (hgl : Gl X "tuple") (hml : X.mg "tuple" = none) (hg : Gl X "range") (hm : X.mg "range" = none) (ha : PE X a (rdE S B M W .mix fa)) (hs : starEach [a] X.env = [(false, eval a X.env)])
    (hs2 : starEach [.Call (.Name "range" p) [a] [] pos] X.env = [(false, eval (.Call (.Name "range" p) [a] [] pos) X.env)]) :
    PE X (.Call (.Name "tuple" q0) [.Call (.Name "range" p) [a] [] pos] [] q1) (rdE S B M W .clean (eTrg (iRng1 fa))) :=
  PE.imp (pe_tupRgF hc hgl hml (prg_1 hg hm ha hs) hs2) fun r H Q ⟨g, m, j, P, E, ok, hf, q, xo⟩ => by
    refine ⟨g, m, j, _, E, ok, hf, fun d j1 g1 v H1 hh l1 ok1 w => ?_, xo⟩
    obtain ⟨n, rfl, c1, c2, hl, p⟩ := hh
    have e0 : n.toNat = (n - 0).toNat := by omega
    rw [e0] at hl p
    have hL : LIM = 2 ^ 61 := rfl
    exact ⟨n, int_of w, rg_ok (by omega) (by omega) c1 c2 hl, trg_end l1 ok1 fun g' v H' => q _ _ g' v H' p⟩
theorem e_trg2 (hc : X.calm = true) (hgl : Gl X "tuple") (hml : X.mg "tuple" = none) (hg : Gl X "range") (hm : X.mg "range" = none) (ha : PE X a (rdE S B M W .mix fa)) (hb : PE X b (rdE S B M W .mix fb)) (hs : starEach [a, b] X.env = (false, eval a X.env) :: starEach [b] X.env) (hs1 : starEach [b] X.env = [(false, eval b X.env)])
    (hp : (backTo pos (starEach [b] X.env)).any (·.1) = false) (hs2 : starEach [.Call (.Name "range" p) [a, b] [] pos] X.env = [(false, eval (.Call (.Name "range" p) [a, b] [] pos) X.env)]) :
    PE X (.Call (.Name "tuple" q0) [.Call (.Name "range" p) [a, b] [] pos] [] q1) (rdE S B M W .clean (eTrg (iRng2 fa fb))) :=
  PE.imp (pe_tupRgF hc hgl hml (prg_2 hg hm ha hb hs hs1 hp) hs2) fun r H Q ⟨g, m, j, P, E, ok, hf, q, xo⟩ => by
    refine ⟨g, m, j, _, E, ok, hf, fun d j1 g1 v H1 h1 l1 ok1 w => ⟨g1, m, _, _, E, ok1, h1, fun d2 j2 g2 v2 H2 hh l2 ok2 w2 => ?_, xo.le l1.f⟩, xo⟩
    obtain ⟨lo, hi, rfl, rfl, c1, c2, c3, c4, hl, p⟩ := hh
    exact ⟨lo, hi, int_of w, int_of w2, rg_ok c1 c2 c3 c4 hl, trg_end (l1.trans l2) ok2 fun g' v H' => q _ _ g' v H' p⟩
end

/-! ### xs.index(i) -/
def idxL (ns : List Int) (k : Int) : Option D := match ns.idxOf? k with | some n => some (.int (n : Nat)) | none => none
def indexD : D → D → Option D
  | .lst xs, .int k => match ints? xs with | some ns => idxL ns k | none => none
  | .tup xs, .int k => match ints? xs with | some ns => idxL ns k | none => none
  | _, _ => none
theorem idxOf?_at : ∀ {ns : List Int} {k : Int} {n : Nat}, ns.idxOf? k = some n → ns[n]? = some k ∧ ∀ m z, m < n → ns[m]? = some z → z ≠ k
  | [], k, n, h => by simp at h
  | a :: ns, k, n, h => by
    rw [List.idxOf?_cons] at h
    by_cases c : a = k
    · subst c
      simp at h
      subst h
      exact ⟨rfl, fun m z hm => by omega⟩
    · have c' : (a == k) = false := by simpa using c
      rw [c'] at h
      simp only [Bool.false_eq_true, if_false, Option.map_eq_some_iff] at h
      obtain ⟨n', h1, rfl⟩ := h
      obtain ⟨h2, h3⟩ := idxOf?_at h1
      refine ⟨by simpa using h2, fun m z hm hz => ?_⟩
      cases m with
      | zero => simp at hz; subst hz; exact c
      | succ m => exact h3 m z (by omega) (by simpa using hz)
section
variable {S : Js J} {B : Bs} {M : Nat → Bool} {W : WX} {X : Cx} {e o : Expr} {pos p ap : Pos} {fo fe : Ev J} {ci : Bool}
theorem flat_ints (ns : List Int) : (ns.map V.int).all flatV = true := by
  rw [List.all_map]; exact List.all_eq_true.mpr fun _ _ => rfl
theorem idx_facts {ns : List Int} {k : Int} {n : Nat} (h : ns.idxOf? k = some n) : (ns.map V.int)[n]? = some (.int k) ∧ eqV (.int k) (.int k) = true ∧ ∀ (m : Nat) (z' : V), m < n → (ns.map V.int)[m]? = some z' → eqV z' (.int k) = false := by
  obtain ⟨h1, h2⟩ := idxOf?_at h
  refine ⟨by rw [List.getElem?_map, h1]; rfl, by show (k == k) = true; simp, fun m z' hm hz => ?_⟩
  rw [List.getElem?_map, Option.map_eq_some_iff] at hz
  obtain ⟨z, hz1, rfl⟩ := hz
  show (z == k) = false
  simpa using h2 m z hm hz1
/-- o.m(e) of a list or a tuple -/
def tBMS (K : PySem.W.Frag) (r1 r2 : V → List V → Hp → VK → Prop) (to : TE) (t : TA) : TE := fun σ H Q => to σ H fun x H1 =>
  (tyV K "list" x H1 ∧ t σ H1 fun xs H2 => r1 x xs H2 Q) ∨ ((∃ a vs, x = .ref a ∧ SqF K H1 a vs) ∧ t σ H1 fun xs H2 => r2 x xs H2 Q)
theorem pe_bmS {es : List Expr} {t : TA} {to : TE} {name : Str} {apos cpos : Pos} {id1 id2 : String} {r1 r2 : V → List V → Hp → VK → Prop} (slot1 : Slot "list" name id1) (hty1 : typeOf (.builtin id1) = pure (.type "method_descriptor")) (hm1 : MtR X id1 r1)
    (slot2 : Slot "tuple" name id2) (hty2 : typeOf (.builtin id2) = pure (.type "method_descriptor")) (hm2 : MtR X id2 r2) (ho : PE X o to) (ha : PA X (e :: es) t)
    (hbase : attributeBase o name X.env (eval o X.env) = eval o X.env)
    (hfew : ((backTo cpos (starEach (e :: es) X.env)).all (fun x => !x.1) && (backToKw cpos (keywordEach [] X.env)).all (fun x => x.1.isSome)
      && decide ((e :: es).length + ([] : List Keyword).length + (if ([] : List Keyword).isEmpty then 0 else 1) < 30)) = true)
    (hline : (apos.endLine == cpos.line) = true) (hs : starEach (e :: es) X.env = (false, eval e X.env) :: starEach es X.env) (hplain : (backTo cpos (starEach es X.env)).any (·.1) = false) :
    PE X (.Call (.Attribute o name apos) (e :: es) [] cpos) (tBMS X.K r1 r2 to t) := by
  refine ⟨fun pins s σ H Q I h => ?_⟩
  refine wpAny_Call_method_late hbase hfew hline rfl (thn (ho.run pins s σ H _ I h) fun v s1 ⟨x, H1, I1, rr1, hh⟩ => ?_)
  rcases hh with ⟨ty, q1⟩ | ⟨ty, q1⟩
  · obtain ⟨h1, h2⟩ := tyV_is I1 rr1 ty
    refine ⟨"list", id1, PySem.F.plainAttrs_list, slot1, hty1, h1, h2, ?_⟩
    have hA := ha.run cpos pins s1 σ H1 _ I1 q1
    rw [hs] at hA ⊢
    refine Calls.callWith_builtin (by show (false || (backTo cpos (starEach es X.env)).any (·.1)) = false; rw [hplain] <;> rfl) (Calls.evalArgs_plain ?_)
    exact thn hA fun us s2 ⟨vs, H2, I2, r2, q2⟩ => hm1 pins s2 σ H2 x vs v us Q I2 rr1 r2 q2
  · have tyis : s1.TypeIs v "tuple" ∧ ∀ a, v = .ref a → ∃ ob, s1.heap.get? a = some ob ∧ ob.dict = none := by
      obtain ⟨a, vs, rfl, hq⟩ := ty
      cases rr1
      obtain ⟨its, _, pl, _⟩ := I1.tuple hq.t
      refine ⟨pl.typeIs, fun b e => ?_⟩
      cases e
      rcases hq with ⟨ob, h1, h2⟩ | ⟨ob, its, n, h1, _, h2, _⟩
      · exact ⟨ob, (I1.hok _ _ h1).1, h2⟩
      · exact ⟨ob, I1.kIn _ _ h1, h2⟩
    obtain ⟨h1, h2⟩ := tyis
    refine ⟨"tuple", id2, PySem.F.plainAttrs_tuple, slot2, hty2, h1, h2, ?_⟩
    have hA := ha.run cpos pins s1 σ H1 _ I1 q1
    rw [hs] at hA ⊢
    refine Calls.callWith_builtin (by show (false || (backTo cpos (starEach es X.env)).any (·.1)) = false; rw [hplain] <;> rfl) (Calls.evalArgs_plain ?_)
    exact thn hA fun us s2 ⟨vs, H2, I2, r2, q2⟩ => hm2 pins s2 σ H2 x vs v us Q I2 rr1 r2 q2
/-- the receiver's type is asked ahead of the argument: the closure says that it is a list or a tuple -/
def isSq : D → Prop
  | .lst _ => True
  | .tup _ => True
  | _ => False
def eMt (φ : D → D → Option D) (fo fe : Ev J) (m : Sd) (j : J) (P : D → J → Prop) (E : XP J) : Prop := fo m j (fun x j1 => isSq x ∧ fe m j1 (fun y j2 => ∃ z, φ x y = some z ∧ P z j2) E) E
instance {φ : D → D → Option D} {fo fe : Ev J} [h1 : MoE fo] [h2 : MoE fe] : MoE (eMt φ fo fe) := ⟨fun p q x => h1.mo p (fun _ _ ⟨l, p⟩ => ⟨l, h2.mo p (fun _ _ ⟨z, e, p⟩ => ⟨z, e, q _ _ p⟩) x⟩) x⟩
theorem e_index (hK : X.K = S.K) (ho : PE X o (rdE S B M W (ofB ci) fo)) (he : PE X e (rdE S B M W .mix fe)) (hl : (ap.endLine == p.line) = true) (hs : starEach [e] X.env = [(false, eval e X.env)]) (hb : attributeBase o "index" X.env (eval o X.env) = eval o X.env)
    (hf : ((backTo p (starEach [e] X.env)).all (fun x => !x.1) && (backToKw p (keywordEach [] X.env)).all (fun x => x.1.isSome)
      && decide (([e] : List Expr).length + ([] : List Keyword).length + (if ([] : List Keyword).isEmpty then 0 else 1) < 30)) = true) :
    PE X (.Call (.Attribute o "index" ap) [e] [] p) (rdE S B M W .clean (eMt indexD fo fe)) :=
  PE.imp (pe_bmS PySem.F.slot_list_index PySem.F.type_list_index mt_index PySem.F.slot_tuple_index PySem.F.type_tuple_index mt_indexT ho (pa_cons he pa_nil hs) hb hf hl hs rfl) fun R H Q ⟨g, m, j, P, E, ok, hf, q, xo⟩ => by
    refine ⟨g, m, j, _, E, ok, hf, fun x j1 g1 v H1 hh l1 ok1 w => ?_, xo⟩
    obtain ⟨hx, h2⟩ := hh
    have key : ∀ {xs : List D} {y z : D}, (match ints? xs with | some ns => (match y with | .int k => idxL ns k | _ => none) | none => none) = some z → ∃ (ns : List Int) (k : Int) (n : Nat), xs = ns.map D.int ∧ y = .int k ∧ z = .int (n : Nat) ∧ ns.idxOf? k = some n := fun {xs y z} h3 => by
      split at h3
      · rename_i ns hn
        split at h3
        · rename_i k
          unfold idxL at h3
          split at h3
          · rename_i n hn2
            cases h3
            exact ⟨ns, k, n, ints?_some hn, rfl, rfl, hn2⟩
          · cases h3
        · cases h3
      · cases h3
    cases x with
    | lst xs =>
      obtain ⟨a, vs, rfl, ha, rl⟩ := lst_of (w.mix ok1.b.fg)
      refine .inl ⟨.inl ⟨rfl, _, .of (ok1.b.gh _ _ ha)⟩, g1, m, _, _, E, ok1, h2, fun y j2 g2 v2 H2 hz l2 ok2 w2 => ?_, xo.le l1.f⟩
      obtain ⟨z, h3, p⟩ := hz
      obtain ⟨ns, k, n, rfl, rfl, rfl, hn2⟩ := key (xs := xs) (y := y) (z := z) (by
        cases y <;> first | exact h3 | (unfold indexD at h3; cases h3))
      have hv := RpL.of_ints rl
      subst hv
      obtain ⟨f1, f2, f3⟩ := idx_facts hn2
      exact ⟨a, _, .int k, n, .int k, rfl, by rw [int_of w2], .of (ok2.b.gh _ _ (l2.g _ _ ha)), rfl, flat_ints ns, f1, f2, f3, q _ _ g2 _ H2 p (l1.trans l2) ok2 (.int _)⟩
    | tup xs =>
      obtain ⟨a, vs, rfl, ha, rl⟩ := tup_of (w.mix ok1.b.fg)
      refine .inr ⟨⟨a, _, rfl, by rw [hK]; exact ha.same ok1.b.gh⟩, g1, m, _, _, E, ok1, h2, fun y j2 g2 v2 H2 hz l2 ok2 w2 => ?_, xo.le l1.f⟩
      obtain ⟨z, h3, p⟩ := hz
      obtain ⟨ns, k, n, rfl, rfl, rfl, hn2⟩ := key (xs := xs) (y := y) (z := z) (by
        cases y <;> first | exact h3 | (unfold indexD at h3; cases h3))
      have hv := RpL.of_ints rl
      subst hv
      obtain ⟨f1, f2, f3⟩ := idx_facts hn2
      exact ⟨a, _, .int k, n, .int k, rfl, by rw [int_of w2], by rw [hK]; exact (ha.same (l2.g.trans ok2.b.gh)).t, rfl, flat_ints ns, f1, f2, f3, q _ _ g2 _ H2 p (l1.trans l2) ok2 (.int _)⟩
    | _ => exact hx.elim
end
end Mp

/-! MpA: x = [.. for ..] at once; defs by their closures; the law's end. -/
namespace Mp
open PySem PySem.Spec L2
open PyProof.Rows hiding St
variable {J : Type}
theorem rd_ice {S : Js J} {B : Bs} {M : Nat → Bool} {W : WX} {f : Ev J} {r : St} {H : Hp} {Q : VK} (h : rdE S B M W .clean f r H Q) : rdE S B M W .fresh f r H Q := by
  obtain ⟨g, m, j, P, E, ok, hf, q, xo⟩ := h
  refine ⟨g, m, j, P, E, ok, hf, fun d j' g' v H' p l ok' w => ?_, xo⟩
  obtain ⟨a, rfl, n, o⟩ := w
  exact q d j' (g'.ice a) _ H' p (l.ice n o.1) ⟨ok'.b.ice o.1, ok.s.ice l n o.1⟩ o.ice
section
variable {S : Js J} {B : Bs} {M : Nat → Bool} {W : WX} {X : Cx} {elt tg iter : Expr} {ifs : List Expr} {scope : Scope} {own : List (Str × Nat)} {pos spos py : Pos} {fi : Iv J} {γ : Gv} {ft : Tv J} {fe : Ev J} {ks : List Nat} {c w : Bool} {i : Nat} {y : Str}
theorem s_setLcO (hM : M i = true) (hc : X.calm = true) (hN : X.N.Nodup) (hy : X.N[i]? = some y) (hyl : X.env.scope.names.lookup y = some .local) (hsw : swapsWith (.ListComp elt [⟨tg, iter, ifs, 0⟩] scope pos) (some (.Name y py)) spos.line X.env = pure true)
    (hi : PI X tg iter (rdI S B M W c w fi)) (ok : BlkOk X.N X.env.scope scope own) (hks : ∀ k ∈ ks, k ∈ own.map (·.2))
    (hg : ∀ (s : Shared) (H : Hp) (C : Addr) (cl : List (Str × Addr)) (fp : List Addr), PG (X.blk s H scope (compEnvC scope cl C X.env) fp) tg (rdG S B M w ks γ)) (ht : ∀ (s : Shared) (H : Hp) (C : Addr) (cl : List (Str × Addr)) (fp : List Addr), PTs (X.blk s H scope (compEnvC scope cl C X.env) fp) ifs (rdT S B M W0 ft))
    (he : ∀ (s : Shared) (H : Hp) (C : Addr) (cl : List (Str × Addr)) (fp : List Addr), PE (X.blk s H scope (compEnvC scope cl C X.env) fp) elt (rdE S B M W0 .clean fe)) (hs : ∀ x, foldedSetIterable iter X.env x = pure x) :
    PS X (.Assign [.Name y py] (.ListComp elt [⟨tg, iter, ifs, 0⟩] scope pos) spos) (rdS S B M W (sSet i (eComp (own.map (·.2)) fi γ ft fe))) :=
  PS.imp (ps_setLc hc hN hy hyl hsw hi ok hg ht he hs) fun E r H h => sSetO_rd hM (fun _ _ _ z => lc_rd hks z) h
theorem s_setLc (hM : M i = false) (hc : X.calm = true) (hN : X.N.Nodup) (hy : X.N[i]? = some y) (hyl : X.env.scope.names.lookup y = some .local) (hsw : swapsWith (.ListComp elt [⟨tg, iter, ifs, 0⟩] scope pos) (some (.Name y py)) spos.line X.env = pure true)
    (hi : PI X tg iter (rdI S B M W c w fi)) (ok : BlkOk X.N X.env.scope scope own) (hks : ∀ k ∈ ks, k ∈ own.map (·.2))
    (hg : ∀ (s : Shared) (H : Hp) (C : Addr) (cl : List (Str × Addr)) (fp : List Addr), PG (X.blk s H scope (compEnvC scope cl C X.env) fp) tg (rdG S B M w ks γ)) (ht : ∀ (s : Shared) (H : Hp) (C : Addr) (cl : List (Str × Addr)) (fp : List Addr), PTs (X.blk s H scope (compEnvC scope cl C X.env) fp) ifs (rdT S B M W0 ft))
    (he : ∀ (s : Shared) (H : Hp) (C : Addr) (cl : List (Str × Addr)) (fp : List Addr), PE (X.blk s H scope (compEnvC scope cl C X.env) fp) elt (rdE S B M W0 .clean fe)) (hs : ∀ x, foldedSetIterable iter X.env x = pure x) :
    PS X (.Assign [.Name y py] (.ListComp elt [⟨tg, iter, ifs, 0⟩] scope pos) spos) (rdS S B M W (sSet i (eComp (own.map (·.2)) fi γ ft fe))) :=
  PS.imp (ps_setLc hc hN hy hyl hsw hi ok hg ht he hs) fun E r H h => sSet_rd hM (fun _ _ _ z => lc_rd hks (rd_ice z)) h
end

/-! ### a def by its closure -/
def startD (k : Nat) (ds : List D) : Sd := ds.map some ++ List.replicate (k - ds.length) none
def endF (P : D → J → Prop) : Fl → Sd → J → Prop
  | .ret d, _, j => P d j
  | .next, _, j => P .non j
  | .brk, _, _ => False
  | .cnt, _, _ => False
def runF (k n : Nat) (f : Sv J) (ds : List D) (j : J) (P : D → J → Prop) (E : Ex → J → Prop) : Prop := ds.length = n ∧ f (startD k ds) j (endF P) (fun e _ j' => E e j')
theorem endF_mo {P P' : D → J → Prop} (q : ∀ d j, P d j → P' d j) : ∀ l m j, endF P l m j → endF P' l m j
  | .ret _, _, _, h => q _ _ h
  | .next, _, _, h => q _ _ h
instance {k n : Nat} {f : Sv J} [h : MoS f] : MoF (runF k n f) := ⟨fun ⟨l, p⟩ q x => ⟨l, h.mo p (endF_mo q) fun _ _ _ => x _ _⟩⟩
theorem runF_len {k n : Nat} {f : Sv J} (ds : List D) (j : J) (P : D → J → Prop) (E : Ex → J → Prop) (h : runF k n f ds j P E) : ds.length = n := h.1
section
variable {S : Js J}
theorem slots_start {F G : Hp} {A : Addr → Prop} {N : List Str} {ds : List D} {vs : List V} {M : Nat → Bool} (hM : ∀ i, i < ds.length → M i = false) (h : RpL S F ds vs) : Slots S ⟨F, G, A⟩ M (start N vs) (startD N.length ds) := by
  have get : ∀ {i : Nat} {d : D}, (startD N.length ds)[i]? = some (some d) → ds[i]? = some d := fun {i d} e => by
    unfold startD at e
    by_cases hi : i < (ds.map some).length
    · rw [List.getElem?_append_left hi, List.getElem?_map, Option.map_eq_some_iff] at e
      obtain ⟨d', h1, h2⟩ := e
      cases h2
      exact h1
    · rw [List.getElem?_append_right (by omega), List.getElem?_replicate] at e
      split at e <;> cases e
  have lt : ∀ {i : Nat} {d : D}, ds[i]? = some d → i < ds.length := fun e => (List.getElem?_eq_some_iff.mp e).1
  refine ⟨?_, fun i d e _ => ?_, fun i d e m => ?_, fun i k a d d' e _ m _ _ _ => ?_⟩
  · unfold L2.start startD
    rw [List.length_append, List.length_append, List.length_map, List.length_map, List.length_replicate, List.length_replicate, h.length]
  · obtain ⟨v, h1, h2⟩ := h.get (get e)
    refine ⟨v, ?_, h2⟩
    unfold L2.start
    rw [List.getElem?_append_left (by rw [List.length_map]; exact (List.getElem?_eq_some_iff.mp h1).1), List.getElem?_map, h1]
    rfl
  · rw [hM i (lt (get e))] at m; cases m
  · rw [hM i (lt (get e))] at m; cases m
/-- what leaves a def -/
def WD (E : XK) : WX := fun cls d _ H => E cls d H
theorem run_end {F H : Hp} {A : Addr → Prop} {j : J} {ds : List D} {vs : List V} {N : List Str} {n : Nat} {f : Sv J} {M : Nat → Bool} {Q : VK} {E : XK} {P : D → J → Prop} {Ep : Ex → J → Prop} (fh : Same F H) (fa : ∀ b o, F b = some o → ¬ A b) (jr : S.rep j F A H) (sm : ∃ o u, H sysModules = some (.frz o u))
    (hM : ∀ i, i < n → M i = false) (rp : RpL S F ds vs) (hf : runF N.length n f ds j P Ep) (q : ∀ d j' F' A' H' v, P d j' → FPost S F A H F' A' H' j' → Rp S F' d v → Q v H') (x : ∀ e j' F' A' H' cls dx, Ep e j' → FPost S F A H F' A' H' j' → ExR S F' e cls dx → E cls dx H') :
    rdS S ⟨F, H, A⟩ M (WD E) f { nx := fun _ H' => Q .non H', rt := Q } (start N vs) H := by
  obtain ⟨hl, hf⟩ := hf
  have ok0 : Ok S ⟨F, H, A⟩ ⟨F, F, A⟩ M (start N vs) H (startD N.length ds) j :=
    ⟨⟨Same.refl _, fh, fa, jr, Same.refl _, fun b o e => .inl e, fun b z => .inl z, fun b o e _ => e, fun b e => e, sm⟩, slots_start (fun i hi => hM i (hl ▸ hi)) rp⟩
  have post : ∀ {g' : Gh} {H' : Hp} {jj : J}, OkB S ⟨F, H, A⟩ g' H' jj → FPost S F A H g'.G g'.A H' jj := fun {g' H' jj} ok =>
    ⟨ok.f0.trans ok.fg, ok.gh, ok.ga, S.frame ok.jr ok.fg fun _ _ => rfl, ok.h0, ok.g0, ok.a0, ok.h1, ok.sm⟩
  refine ⟨_, _, j, _, _, ok0, hf, fun fl m' j' p => ?_, fun e m' j' g' r' H' cls dx pe _ ok' ex => x e j' _ _ H' cls dx pe (post ok'.b) (ex.mono ok'.b.fg)⟩
  cases fl with
  | ret d => exact fun g' H' v ok rv => q _ _ _ _ H' v p (post ok) rv
  | next => exact fun g' r' H' _ ok => q _ _ _ _ H' .non p (post ok.b) .non
  | brk => exact p.elim
  | cnt => exact p.elim
end
/-- the context of a def's body -/
abbrev cxE (P : Program) (w : World) (K : PySem.W.Frag) (mg : Str → Option Value) (base : Heap) (N : List Str) (qual : Str) (scope : Scope) (f : Addr) (cd : Value) (A : Around) (outer : List Env) (s : Shared) (H : Hp) (E : XK) : Cx :=
  cxOf (L2.CX P w) P w K mg base N qual scope f cd A outer s H E
/-- .. where nothing that is raised leaves it -/
abbrev cxF (P : Program) (w : World) (K : PySem.W.Frag) (mg : Str → Option Value) (base : Heap) (N : List Str) (qual : Str) (scope : Scope) (f : Addr) (cd : Value) (A : Around) (outer : List Env) (s : Shared) (H : Hp) (E : XK) : Cx :=
  (cxOf CX0 P w K mg base N qual scope f cd A outer s H E).nox
section
variable {P : Program} {w : World} {K : PySem.W.Frag} {mg : Str → Option Value} {base : Heap} {S : Js J}
theorem takesE {N : List Str} {qual : Str} {scope : Scope} {f : Addr} {cd : Value} {A : Around} {outer : List Env} {s : Shared} {H : Hp} {E : XK} : Takes (cxE P w K mg base N qual scope f cd A outer s H E) (WD E) := takes_of rfl rfl rfl rfl
theorem ownE {N : List Str} {qual : Str} {scope : Scope} {f : Addr} {cd : Value} {A : Around} {outer : List Env} {s : Shared} {H : Hp} {E : XK} : PassesOwn (model P w) (cxE P w K mg base N qual scope f cd A outer s H E).A (cxE P w K mg base N qual scope f cd A outer s H E).env (cxE P w K mg base N qual scope f cd A outer s H E).xe := passes_of rfl
theorem FnG.ofN {k : Nat} {f : Addr} {fd : FuncData} {ps : List Str} {sp : Sp} (F : FnG P w K mg base CX0 k f fd ps sp) : FnG P w K mg base (L2.CX P w) k f fd ps sp :=
  ⟨F.len, fun A outer s H args us vs Q E hr hg he hb hv hs => codeAny_mono (F.run A outer s H args us vs Q E hr hg he hb hv hs) fun r s' h => by
    cases r with
    | error e => exact False.elim h
    | ok fl => cases fl <;> exact h⟩
theorem fnG_sp {x qual : Str} {st : Stmt} {f : Addr} {fd : FuncData} {N ps : List Str} {k : Nat} {sp : Sp} (F : L2.Fun K x qual st f fd) (Sc : FnScope N ps (defScope st)) (len : ∀ vs H Q E, sp vs H Q E → vs.length = ps.length)
    (hbody : ∀ (cdv : Value) (A : Around) (outer : List Env) (s : Shared) (H : Hp) (vs : List V) (Q : VK) (E : XK), Room k (A.deeper (envOfC qual (defScope st) s.heap.objs.size f cdv)) → (A.deeper (envOfC qual (defScope st) s.heap.objs.size f cdv)).guards = some [] → sp vs H Q E →
      ∃ t, PSs (cxF P w K mg base N qual (defScope st) f cdv A outer s H E) (defBody st) t ∧ t { nx := fun _ H' => Q .non H', rt := Q } (start N vs) H) : FnG P w K mg base CX0 (k + 1) f fd ps sp := by
  obtain ⟨oc, od, kV, doc, pm, an, cdv, ct, osl, rfl, lk, hcd⟩ := F.ex
  refine fnG_of lk hcd Sc len fun A outer s H vs Q E hr hgd hsp => ?_
  obtain ⟨t, h, q⟩ := hbody cdv A outer s H vs Q E hr hgd hsp
  exact ⟨t, h.nox, q⟩
theorem fnG_D {x qual : Str} {st : Stmt} {f : Addr} {fd : FuncData} {N ps : List Str} {n k : Nat} {M : Nat → Bool} {fs : Sv J} (F : L2.Fun K x qual st f fd) (Sc : FnScope N ps (defScope st)) (hn : ps.length = n) (hM : ∀ i, i < n → M i = false)
    (hbody : ∀ (cdv : Value) (A : Around) (outer : List Env) (s : Shared) (H : Hp) (E : XK) (B : Bs), Room k (A.deeper (envOfC qual (defScope st) s.heap.objs.size f cdv)) → (A.deeper (envOfC qual (defScope st) s.heap.objs.size f cdv)).guards = some [] →
      PSs (cxE P w K mg base N qual (defScope st) f cdv A outer s H E) (defBody st) (rdS S B M (WD E) fs)) : FnG P w K mg base (L2.CX P w) (k + 1) f fd ps (spF S n (runF N.length n fs)) := by
  obtain ⟨oc, od, kV, doc, pm, an, cdv, ct, osl, rfl, lk, hcd⟩ := F.ex
  refine fnG_of lk hcd Sc (fun vs H Q E h => ?_) fun A outer s H vs Q E hr hgd h => ?_
  · obtain ⟨_, _, _, ds, _, _, _, _, _, _, rp, hl, _⟩ := h
    rw [← rp.length, hl, hn]
  · obtain ⟨F0, A0, j, ds, P, Ep, fh, fa, jr, sm, rp, hl, hf, q, xx⟩ := h
    exact ⟨_, hbody cdv A outer s H E ⟨F0, H, A0⟩ hr hgd, run_end fh fa jr sm hM rp hf q xx⟩
end
end Mp

/-! MpB: the law's end. -/
namespace Mp
open PySem PySem.Spec L2
open PyProof.Rows hiding St
variable {J : Type}
/-- what a law is promised -/
def spLaw (K : PySem.W.Frag) : Sp := fun vs H Q _ => ∃ (a : Addr) (ns : List Int), vs = [.ref a] ∧ ns.length ≤ 63 ∧ (∀ z ∈ ns, Builtin.Int.intBits z ≤ 1048576) ∧ SqL K H a (ns.map V.int) ∧ (∃ o u, H sysModules = some (.frz o u)) ∧ ∀ H', Q (.bl true) H'
theorem law_callG {P : Program} {w : World} {K : PySem.W.Frag} {mg mb : Str → Option Value} {k : Nat} {fa a : Addr} {fd : FuncData} {x : Str} {s₁ : Shared} {vs : List Value} {ns : List Int}
    (KX : K.In s₁.heap) (hns : s₁.heap.Ns mainGlobals mg) (hb : s₁.heap.Ns builtinsNs mb) (hbb : ∀ x : Str, x ≠ "__name__" → mb x = bootBuiltins x) (hlim : s₁.heap.NoLimit) (hg : s₁.gens = #[]) (hsm : ∃ mm, s₁.heap.Ns sysModules mm) (hKs : K.lookup sysModules = none)
    (ha : s₁.heap.get? a = some { cls := .type "list", data := .seq vs.toArray }) (hi : IntsAre vs ns) (hl : ns.length ≤ 63) (hbits : ∀ z ∈ ns, Builtin.Int.intBits z ≤ 1048576) (hr : Room k callerA)
    (F : ∀ base : Heap, K.In base → base.Ns mainGlobals mg → FnG P w K mg base CX0 k fa fd [x] (spLaw K)) (hbind : ∀ (s : Shared) (u : Value), BindsTo s fd ⟨[u], []⟩ [(x, u)]) :
    codeAny (model P w) callerA (.call (.ref fa) ⟨[.ref a], []⟩) (fun r s' => r = .ok (.ret (.bool true)) ∧ OldK s₁.heap s'.heap ∧ s'.os = s₁.os ∧ AllBare s'.gens) s₁ := by
  have rv := vals_ints hi
  have lenV := hi.length
  have hl' : ns.length ≤ sizeLine := Nat.le_trans hl (by decide)
  obtain ⟨mm, om, em, pm, hm1, hm2, hm3⟩ := hsm
  have hne : a ≠ sysModules := by
    intro z
    subst z
    rw [ha] at hm1
    cases hm1
    have d' : Data.seq vs.toArray _ = Data.dict em pm := hm2
    cases d'
  -- from an abstract heap in which nothing but the script and the modules' dict may be tracked
  have core : ∀ H : Hp, (∀ b u, H b = some u → (∃ o y, u = .frz o y) ∧ (b = a ∨ b = sysModules)) → SqL K H a (ns.map V.int) → (∃ o u, H sysModules = some (.frz o u)) → HOk P w H s₁.heap → (H a ≠ none → K.lookup a = none) →
      codeAny (model P w) callerA (.call (.ref fa) ⟨[.ref a], []⟩) (fun r s' => r = .ok (.ret (.bool true)) ∧ OldK s₁.heap s'.heap ∧ s'.os = s₁.os ∧ AllBare s'.gens) s₁ := by
    intro H hO hS hSM hok hK
    have base_of : ∀ {b : Addr} {o : Obj}, s₁.heap.get? b = some o → H b = none → (hidT s₁.heap H).get? b = some o := fun e n => hidT_get e n
    have noA : ∀ {b : Addr} {o : Obj} {es : Array DictEntry} {ep : Nat}, s₁.heap.get? b = some o → o.data = .dict es ep → b ≠ sysModules → H b = none := fun {b o es ep} e d hn => by
      cases q : H b with
      | none => rfl
      | some u =>
        have e' : b = a := (hO b u q).2.resolve_right hn
        subst e'
        rw [ha] at e; cases e
        have d' : Data.seq vs.toArray _ = Data.dict es ep := d
        cases d'
    have nsK : ∀ {b : Addr} {m : Str → Option Value}, b ≠ sysModules → s₁.heap.Ns b m → (hidT s₁.heap H).Ns b m := fun {b m} hn ⟨o, es, ep, e, d, r⟩ => ⟨o, es, ep, base_of e (noA e d hn), d, r⟩
    have hKb : K.In (hidT s₁.heap H) := fun b o e => base_of (KX b o e) (by
      cases q : H b with
      | none => rfl
      | some u =>
        rcases (hO b u q).2 with z | z
        · subst z
          rw [hK (by rw [q]; simp)] at e; cases e
        · subst z
          rw [hKs] at e; cases e)
    have hM : Mod K mg (hidT s₁.heap H) := ⟨hKb, nsK (by decide) hns, ⟨mb, nsK (by decide) hb, hbb⟩, let ⟨mc, h1, h2⟩ := hlim; ⟨mc, nsK (by decide) h1, h2⟩⟩
    have e0 : Env0 P w K mg (hidT s₁.heap H) callerA [] s₁ H := ⟨rfl, hM, fun b o e => of_hidT e, Nat.le_of_eq (hidT_size _ _), trivial, fun b hb => absurd (show b ∈ ([] : List Addr) from hb) (by simp), hok, .of_eq hg⟩
    refine codeAny_mono ((F _ hKb (nsK (by decide) hns)).run callerA [] s₁ H ⟨[.ref a], []⟩ [.ref a] [.ref a] (fun v _ => v = .bl true) E0 hr rfl e0 (hbind s₁ (.ref a)) (.cons rfl .nil) ⟨a, ns, rfl, hl, hbits, hS, hSM, fun _ => rfl⟩) fun r s' h => ?_
    cases r with
    | error e => exact False.elim h
    | ok fl =>
      cases fl with
      | next => exact False.elim h
      | brk => exact False.elim h
      | cont => exact False.elim h
      | ret u =>
        obtain ⟨v, H', os, bare, un, hok', r', q⟩ := h
        have q' : v = .bl true := q
        subst q'
        obtain rfl : u = Value.bool true := r'
        refine ⟨rfl, OldK.of_keep fun b o e => ?_, os, bare⟩
        cases q : H b with
        | none => exact un.keep b o e q (by intro z; exact absurd (show b ∈ ([] : List Addr) from z) (by simp)) (by simp)
        | some u =>
          obtain ⟨⟨ob, y, rfl⟩, _⟩ := hO b u q
          have z2 := un.frzs b ob _ q
          obtain ⟨e1, _⟩ := hok b _ q
          obtain ⟨e2, _⟩ := hok' b _ z2
          rw [e] at e1; cases e1
          exact e2
  have sm2 : s₁.heap.get? sysModules = some om := hm1
  cases hk : K.lookup a with
  | some o =>
    have e := KX a o hk
    rw [ha] at e
    cases e
    refine core (fun b => if b = sysModules then some (.frz om (.own 0)) else none) (fun b u z => ?_) (.inr ⟨_, vs.toArray, _, hk, rfl, rfl, rfl, by rw [List.size_toArray, lenV]; exact hl', by simpa using rv⟩) ⟨_, _, if_pos rfl⟩ (fun b u z => ?_) fun z => absurd (if_neg hne) z
    · by_cases hb : b = sysModules
      · rw [if_pos hb] at z; cases z; exact ⟨⟨_, _, rfl⟩, .inr hb⟩
      · rw [if_neg hb] at z; cases z
    · by_cases hb : b = sysModules
      · have z' := (if_pos hb).symm.trans z
        cases z'
        subst hb
        exact ⟨sm2, om, sm2⟩
      · have z' := (if_neg hb).symm.trans z
        cases z'
  | none =>
    refine core (fun b => if b = a then some (.frz { cls := .type "list", data := .seq vs.toArray } (.lst (ns.map V.int))) else if b = sysModules then some (.frz om (.own 0)) else none) (fun b u z => ?_) (.inl (.inr ⟨{ cls := .type "list", data := .seq vs.toArray }, if_pos rfl⟩)) ⟨om, .own 0, ?_⟩ (fun b u z => ?_) fun _ => hk
    · by_cases hb : b = a
      · rw [if_pos hb] at z; cases z; exact ⟨⟨_, _, rfl⟩, .inl hb⟩
      · rw [if_neg hb] at z
        by_cases hb : b = sysModules
        · rw [if_pos hb] at z; cases z; exact ⟨⟨_, _, rfl⟩, .inr hb⟩
        · rw [if_neg hb] at z; cases z
    · show (if sysModules = a then _ else if sysModules = sysModules then _ else _) = _
      rw [if_neg (Ne.symm hne), if_pos rfl]
    · by_cases hb : b = a
      · have z' := (if_pos hb).symm.trans z
        cases z'
        subst hb
        exact ⟨ha, by rw [List.length_map]; exact hl', vs, _, rv, ha⟩
      · have z' := (if_neg hb).symm.trans z
        by_cases hb : b = sysModules
        · have z'' := (if_pos hb).symm.trans z'
          cases z''
          subst hb
          exact ⟨sm2, om, sm2⟩
        · have z'' := (if_neg hb).symm.trans z'
          cases z''
/-- the goal that k_head leaves -/
theorem walk_ofG {l : PySem.W.OpenLaw} {k : Nat} {q : Program} {loose : List Str} {XP : (Str → Option Value) → Heap → Prop} {YP : World → Heap → Prop} {d : DefRec} {K : Params → PySem.W.Frag} {x : Str}
    (hn : l.most = some 63) (hdf : d.params.defaults = []) (hr : Room k callerA) (hin : importsNone q = true) (hY : ∀ (w : World) (h : Heap), YP w h → (K w.params).In h)
    (F : ∀ (w : World) (mg : Str → Option Value) (fa : Addr) (h : Heap), (K w.params).In h → h.Ns mainGlobals mg → mg d.name = some (.ref fa) → (K w.params).lookup sysModules = none ∧
      ∃ fd : FuncData, (∀ (s : Shared) (u : Value), BindsTo s fd ⟨[u], []⟩ [(x, u)]) ∧
        ∀ base : Heap, (K w.params).In base → base.Ns mainGlobals mg → FnG l.prog w (K w.params) mg base CX0 k fa fd [x] (spLaw (K w.params))) :
    PySem.W.WalkO q loose XP YP l.row.toRowW d [] (fun f vs => PySem.call f vs) := by
  refine Att.attach_callB hn hdf fun w s₀ s₁ mg mb fa o pm cd doc a vs ns G Y ho hd hcd hmg hobj hints hlen hbits hg => ?_
  have KX := hY w _ Y
  obtain ⟨hks, fd, hb, hF⟩ := F w mg fa _ KX G.T.g hmg
  obtain ⟨mm, hmm, _⟩ := (G.T.seer hin).mods
  exact law_callG KX G.T.g G.T.b G.T.builtins G.T.nolimit hg ⟨mm, hmm⟩ hks hobj hints hlen hbits hr hF hb
/-- a reading with an unknown -/
theorem pss_ex {X : Cx} {sts : List Stmt} {α : Type} {t : α → TS} (h : ∀ x, PSs X sts (t x)) : PSs X sts (fun D σ H => ∃ x, t x D σ H) := ⟨fun pins s σ H D I ⟨x, q⟩ => (h x).run pins s σ H D I q⟩
end Mp

/-! MpC: the rules with their side conditions filled, for printed terms. -/
namespace Mp
open PySem PySem.Spec L2
open PyProof.Rows hiding St
variable {J : Type}
section
variable {S : Js J} {B : Bs} {M : Nat → Bool} {W : WX} {X : Cx} {e a b c d o elt tg iter : Expr} {es es' rest ifs : List Expr} {pos p p1 p2 p3 spos py apos : Pos} {f fa fb fc fe fo : Ev J} {fr : Av J} {x y z : Str} {i k l : Nat} {kk : Nat}
theorem xV (i : Nat) (hM : M i = false := by rfl) (hN : X.N[i]? = some x := by rfl) (hv : Vis X.env.scope x := by first | exact Or.inl rfl | exact Or.inr (Or.inl rfl) | exact Or.inr (Or.inr rfl)) (hd : (x == ("__debug__" : Str)) = false := by decide) (hcd : (x == ("__classdict__" : Str)) = false := by decide) :
    PE X (.Name x pos) (rdE S B M W .clean (eVar i)) := by
  have h := e_var (S := S) (B := B) (M := M) (W := W) (pos := pos) hN hv hd hcd
  rw [hM] at h
  exact h
theorem xO (i : Nat) (hM : M i = true := by rfl) (hN : X.N[i]? = some x := by rfl) (hv : Vis X.env.scope x := by first | exact Or.inl rfl | exact Or.inr (Or.inl rfl) | exact Or.inr (Or.inr rfl)) (hd : (x == ("__debug__" : Str)) = false := by decide) (hcd : (x == ("__classdict__" : Str)) = false := by decide) :
    PE X (.Name x pos) (rdE S B M W .mix (eVar i)) := by
  have h := e_var (S := S) (B := B) (M := M) (W := W) (pos := pos) hN hv hd hcd
  rw [hM] at h
  exact h
theorem cI {i : Int} : PE X (.Constant (.int i) kk pos) (rdE S B M W .clean (eC (.int i))) := e_c pe_int fun _ => .int _
theorem cB {i : Bool} : PE X (.Constant (.bool i) kk pos) (rdE S B M W .clean (eC (.bl i))) := e_c pe_bl fun _ => .bl _
theorem cN : PE X (.Constant .none kk pos) (rdE S B M W .clean (eC .non)) := e_c pe_non fun _ => .non
theorem cS : PE X (.Constant (.str x) kk pos) (rdE S B M W .clean (eC (.str x))) := e_c pe_str fun _ => .str _
theorem toMixC (h : PE X e (rdE S B M W .clean f)) : PE X e (rdE S B M W .mix f) := toMix h
theorem toMixF (h : PE X e (rdE S B M W .fresh f)) : PE X e (rdE S B M W .mix f) := toMix h
/-! operators: C on frozen, X on seen arguments -/
variable (hK : X.K = S.K)
theorem bAddC (hK : X.K = S.K) (ha : PE X a (rdE S B M W .clean fa)) (hb : PE X b (rdE S B M W .clean fb)) : PE X (.BinOp a .Add b pos) (rdE S B M W .clean (eOp addD fa fb)) := e_bin (ci := true) op_addD (by rw [hK]; exact s_add) ha hb
theorem bAddX (hK : X.K = S.K) (ha : PE X a (rdE S B M W .mix fa)) (hb : PE X b (rdE S B M W .mix fb)) : PE X (.BinOp a .Add b pos) (rdE S B M W .mix (eOp addD fa fb)) := e_bin (ci := false) op_addD (by rw [hK]; exact s_add) ha hb
theorem bAddF (ha : PE X a (rdE S B M W .clean fa)) (hb : PE X b (rdE S B M W .clean fb)) : PE X (.BinOp a .Add b pos) (rdE S B M W .fresh (eOp addL fa fb)) := e_bin (ci := true) op_cat s_addL ha hb
theorem bSub (ha : PE X a (rdE S B M W .mix fa)) (hb : PE X b (rdE S B M W .mix fb)) : PE X (.BinOp a .Sub b pos) (rdE S B M W .clean (eOp subD fa fb)) := e_bin (ci := false) op_sub s_sub ha hb
theorem bMulC (ha : PE X a (rdE S B M W .clean fa)) (hb : PE X b (rdE S B M W .clean fb)) : PE X (.BinOp a .Mult b pos) (rdE S B M W .clean (eOp mulD fa fb)) := e_bin (ci := true) op_mulD s_mul ha hb
theorem bMulX (ha : PE X a (rdE S B M W .mix fa)) (hb : PE X b (rdE S B M W .mix fb)) : PE X (.BinOp a .Mult b pos) (rdE S B M W .mix (eOp mulD fa fb)) := e_bin (ci := false) op_mulD s_mul ha hb
theorem bMulF (ha : PE X a (rdE S B M W .clean fa)) (hb : PE X b (rdE S B M W .clean fb)) : PE X (.BinOp a .Mult b pos) (rdE S B M W .fresh (eOp mulL fa fb)) := e_bin (ci := true) op_rep s_mulL ha hb
theorem bDiv (ha : PE X a (rdE S B M W .mix fa)) (hb : PE X b (rdE S B M W .mix fb)) : PE X (.BinOp a .FloorDiv b pos) (rdE S B M W .clean (eOp fdivD fa fb)) := e_bin (ci := false) op_fdivW s_fdiv ha hb
theorem bMod (ha : PE X a (rdE S B M W .mix fa)) (hb : PE X b (rdE S B M W .mix fb)) : PE X (.BinOp a .Mod b pos) (rdE S B M W .clean (eOp modD fa fb)) := e_bin (ci := false) op_mod s_mod ha hb
theorem bPow (ha : PE X a (rdE S B M W .mix fa)) (hb : PE X b (rdE S B M W .mix fb)) : PE X (.BinOp a .Pow b pos) (rdE S B M W .clean (eOp powD fa fb)) := e_bin (ci := false) op_pow s_pow ha hb
theorem uNeg (ha : PE X a (rdE S B M W .mix fa)) : PE X (.UnaryOp .USub a pos) (rdE S B M W .clean (eUn negD fa)) := e_un (ci := false) un_neg s_neg ha
/-! comparisons -/
def ltD : D → D → Option D := cmpD fun i j => decide (i < j)
def leD : D → D → Option D := cmpD fun i j => decide (i ≤ j)
def gtD : D → D → Option D := cmpD fun i j => decide (j < i)
def geD : D → D → Option D := cmpD fun i j => decide (j ≤ i)
theorem kEq (hK : X.K = S.K) (hu : X.A.units + 64 < cLine) : OpR X (compareOp .Eq) (rEqE S.K) := hK ▸ op_eqE hu
theorem kNe (hK : X.K = S.K) (hu : X.A.units + 64 < cLine) : OpR X (compareOp .NotEq) (rNeE S.K) := hK ▸ op_neE hu
theorem eCp {op : CmpOp} {r : R2} {φ : D → D → Option D} (hr : OpR X (compareOp op) r) (ho : OpS S r φ false .clean) (ha : PE X a (rdE S B M W .mix fa)) (hb : PE X b (rdE S B M W .mix fb)) (h : op ≠ .In := by decide) (h2 : op ≠ .NotIn := by decide) : PE X (.Compare a [op] [b] pos) (rdE S B M W .clean (eOp φ fa fb)) := e_cmp (ci := false) hr ho ha hb (nomark _ h h2)
theorem tCp {op : CmpOp} {r : R2} {φ : D → D → Option D} (hr : OpR X (compareOp op) r) (ho : OpS S r φ false .clean) (ha : PE X a (rdE S B M W .mix fa)) (hb : PE X b (rdE S B M W .mix fb)) (h : op ≠ .In := by decide) (h2 : op ≠ .NotIn := by decide) : PT X (.Compare a [op] [b] pos) (rdT S B M W (tBl (eOp φ fa fb))) := t_cmp (ci := false) hr ho ha hb (nomark _ h h2)
theorem eCh {op op' : CmpOp} {r r' : R2} {φ ψ : D → D → Option D} (hr : OpR X (compareOp op) r) (hr' : OpR X (compareOp op') r') (ho : OpS S r φ false .clean) (ho' : OpS S r' ψ false .clean) (ha : PE X a (rdE S B M W .mix fa)) (hb : PE X b (rdE S B M W .mix fb)) (hc : PE X c (rdE S B M W .mix fc)) (hm : lastMarks [op, op'] [b, c] = false := by rfl) :
    PE X (.Compare a [op, op'] [b, c] pos) (rdE S B M W .clean (eChain φ ψ fa fb fc)) := e_chain (ci := false) hr hr' ho ho' ha hb hc hm
theorem tCh {op op' : CmpOp} {r r' : R2} {φ ψ : D → D → Option D} (hr : OpR X (compareOp op) r) (hr' : OpR X (compareOp op') r') (ho : OpS S r φ false .clean) (ho' : OpS S r' ψ false .clean) (ha : PE X a (rdE S B M W .mix fa)) (hb : PE X b (rdE S B M W .mix fb)) (hc : PE X c (rdE S B M W .mix fc)) (hm : lastMarks [op, op'] [b, c] = false := by rfl) :
    PT X (.Compare a [op, op'] [b, c] pos) (rdT S B M W (tBl (eChain φ ψ fa fb fc))) := t_chain (ci := false) hr hr' ho ho' ha hb hc hm
theorem tTr (hK : X.K = S.K) (h : PE X a (rdE S B M W .mix fa)) (he : ∀ whole, isTrue a X.env whole = (do let v ← whole; standAt a.pos; holding [v] (truthy v)) := by intro _; rfl) : PT X a (rdT S B M W (tOf fa)) := t_truth hK h he
/-! items, parts -/
theorem ixC (hK : X.K = S.K) (ha : PE X a (rdE S B M W .clean fa)) (hb : PE X b (rdE S B M W .clean fb)) (hs : PlainIx b := by intro _ _; rfl) : PE X (.Subscript a b pos) (rdE S B M W .clean (eOp idxD fa fb)) := e_ix (ci := true) ix_seq (by rw [hK]; exact s_idx) ha hb hs
theorem ixX (hK : X.K = S.K) (ha : PE X a (rdE S B M W .mix fa)) (hb : PE X b (rdE S B M W .mix fb)) (hs : PlainIx b := by intro _ _; rfl) : PE X (.Subscript a b pos) (rdE S B M W .mix (eOp idxD fa fb)) := e_ix (ci := false) ix_seq (by rw [hK]; exact s_idx) ha hb hs
variable {lo hi : Option Expr} {fl fh : Pv J}
theorem slC (hK : X.K = S.K) (ha : PE X a (rdE S B M W .clean fa)) (hl : PO X lo (rdP S B M W fl)) (hh : PO X hi (rdP S B M W fh)) : PE X (.Subscript a (.Slice lo hi none p2) pos) (rdE S B M W .clean (eSl sliceD fa fl fh)) := e_slice (ci := true) sl_D (by rw [hK]; exact s_slice) ha hl hh
theorem slX (hK : X.K = S.K) (ha : PE X a (rdE S B M W .mix fa)) (hl : PO X lo (rdP S B M W fl)) (hh : PO X hi (rdP S B M W fh)) : PE X (.Subscript a (.Slice lo hi none p2) pos) (rdE S B M W .mix (eSl sliceD fa fl fh)) := e_slice (ci := false) sl_D (by rw [hK]; exact s_slice) ha hl hh
theorem slF (hK : X.K = S.K) (ha : PE X a (rdE S B M W .clean fa)) (hl : PO X lo (rdP S B M W fl)) (hh : PO X hi (rdP S B M W fh)) : PE X (.Subscript a (.Slice lo hi none p2) pos) (rdE S B M W .fresh (eSl sliceL fa fl fh)) := e_slice (ci := true) sl_list (by rw [hK]; exact s_sliceL) ha hl hh
theorem rvC (hK : X.K = S.K) (ha : PE X a (rdE S B M W .clean fa)) : PE X (.Subscript a (.Slice none none (some (.UnaryOp .USub (.Constant (.int 1) k p1) p2)) p3) pos) (rdE S B M W .clean (eUn revD fa)) := e_rev (ci := true) hK ha
theorem rvX (hK : X.K = S.K) (ha : PE X a (rdE S B M W .mix fa)) : PE X (.Subscript a (.Slice none none (some (.UnaryOp .USub (.Constant (.int 1) k p1) p2)) p3) pos) (rdE S B M W .mix (eUn revD fa)) := e_rev (ci := false) hK ha
theorem rvF (ha : PE X a (rdE S B M W .clean fa)) : PE X (.Subscript a (.Slice none none (some (.UnaryOp .USub (.Constant (.int 1) k p1) p2)) p3) pos) (rdE S B M W .fresh (eUn revL fa)) := e_revL (ci := true) ha
/-! argument lists, displays -/
theorem aN {k : Bool} : PA X [] (rdA S B M W k aNil) := a_nil
theorem aC (ha : PE X e (rdE S B M W .clean fa)) (hr : PA X es (rdA S B M W true fr)) (hs : starEach (e :: es) X.env = (false, eval e X.env) :: starEach es X.env := by rfl) : PA X (e :: es) (rdA S B M W true (aCons fa fr)) := a_cons (k := true) ha hr hs
theorem aX (ha : PE X e (rdE S B M W .mix fa)) (hr : PA X es (rdA S B M W false fr)) (hs : starEach (e :: es) X.env = (false, eval e X.env) :: starEach es X.env := by rfl) : PA X (e :: es) (rdA S B M W false (aCons fa fr)) := a_cons (k := false) ha hr hs
theorem tpC {x1 : Nat} (ha : PA X es (rdA S B M W true fr)) : PE X (.Tuple es x1 pos) (rdE S B M W .clean (eTup fr)) := e_tup (k := true) ha
theorem tpX {x1 : Nat} (ha : PA X es (rdA S B M W false fr)) : PE X (.Tuple es x1 pos) (rdE S B M W .mix (eTup fr)) := e_tup (k := false) ha
theorem lsF (ha : PA X es (rdA S B M W true fr)) : PE X (.List es pos) (rdE S B M W .fresh (eLst fr)) := e_lst ha
theorem lsX (ha : PA X es (rdA S B M W false fr)) : PE X (.List es pos) (rdE S B M W .mix (eLst fr)) := e_lstM ha
/-! calls -/
theorem kB {id : String} {r : List V → Hp → VK → Prop} {φ : List D → Option D} {ci : Bool} {co : Cl} (hc : CallR X (.builtin id) r) (ho : CallS S r φ ci co) (hm : X.mg x = none) (hv : bootBuiltins x = some (.builtin id)) (ha : PA X (e :: es) (rdA S B M W ci fr)) (hg : Gl X x := by rfl) (hn : x ≠ "__name__" := by decide) (hdb : (x == ("__debug__" : Str)) = false := by decide)
    (he : starEach (e :: es) X.env = (false, eval e X.env) :: starEach es X.env := by rfl) (hpl : (backTo pos (starEach es X.env)).any (·.1) = false := by rfl) : PE X (.Call (.Name x p) (e :: es) [] pos) (rdE S B M W co (eB φ fr)) := e_callB hc ho hg hm hv ha hn hdb he hpl
theorem kT {T : String} {r : List V → Hp → VK → Prop} {φ : List D → Option D} {ci : Bool} {co : Cl} (hc : CallR X (.type T) r) (ho : CallS S r φ ci co) (hm : X.mg x = none) (hv : bootBuiltins x = some (.type T)) (ha : PA X (e :: es) (rdA S B M W ci fr)) (hg : Gl X x := by rfl) (hn : x ≠ "__name__" := by decide) (hdb : (x == ("__debug__" : Str)) = false := by decide)
    (he : starEach (e :: es) X.env = (false, eval e X.env) :: starEach es X.env := by rfl) (hpl : (backTo pos (starEach es X.env)).any (·.1) = false := by rfl) : PE X (.Call (.Name x p) (e :: es) [] pos) (rdE S B M W co (eB φ fr)) := e_callTy hc ho hg hm hv ha hn hdb he hpl
theorem idxE (hK : X.K = S.K) (ho : PE X o (rdE S B M W .mix fo)) (he : PE X e (rdE S B M W .mix fe)) (hl : (apos.endLine == p.line) = true := by rfl) (hs : starEach [e] X.env = [(false, eval e X.env)] := by rfl) (hb : attributeBase o "index" X.env (eval o X.env) = eval o X.env := by rfl)
    (hf : ((backTo p (starEach [e] X.env)).all (fun x => !x.1) && (backToKw p (keywordEach [] X.env)).all (fun x => x.1.isSome)
      && decide (([e] : List Expr).length + ([] : List Keyword).length + (if ([] : List Keyword).isEmpty then 0 else 1) < 30)) = true := by rfl) :
    PE X (.Call (.Attribute o "index" apos) [e] [] p) (rdE S B M W .clean (eMt indexD fo fe)) := e_index (ci := false) hK ho he hl hs hb hf
/-- a def that may be called: its promise on data -/
structure Cal (S : Js J) (P : Program) (w : World) (mg : Str → Option Value) (base : Heap) (k : Nat) (x : Str) (n : Nat) (φ : Fv J) : Prop where
  ex : ∃ fn fd ps, FnG P w S.K mg base (L2.CX P w) k fn fd ps (spF S n φ) ∧ mg x = some (.ref fn) ∧ PySem.W.keepIn S.K (.ref fn) = true ∧ Binds S.K fd ps []
  ln : ∀ ds j P E, φ ds j P E → ds.length = n
theorem callC {k n : Nat} {φ : Fv J} (hK : X.K = S.K) (tk : Takes X W) (C : Cal S X.prog X.w X.mg X.base k x n φ) (hr : Room k X.A) (hgd : X.A.guards = some []) (ha : PA X (e :: es) (rdA S B M W true fr)) (hg : Gl X x := by rfl) (hdb : (x == ("__debug__" : Str)) = false := by decide)
    (he : starEach (e :: es) X.env = (false, eval e X.env) :: starEach es X.env := by rfl) (hpl : (backTo pos (starEach es X.env)).any (·.1) = false := by rfl) : PE X (.Call (.Name x p) (e :: es) [] pos) (rdE S B M W .clean (eCall φ fr)) := by
  obtain ⟨fn, fd, ps, F, h1, h2, h3⟩ := C.ex
  exact e_call (hK ▸ F) tk hr hgd hg h1 (hK ▸ h2) (hK ▸ h3) C.ln ha hdb he hpl
theorem callX [PureJ S] {k n : Nat} {φ : Fv J} (hK : X.K = S.K) (tk : Takes X W) (C : Cal S X.prog X.w X.mg X.base k x n φ) (hr : Room k X.A) (hgd : X.A.guards = some []) (ha : PA X (e :: es) (rdA S B M W false fr)) (hg : Gl X x := by rfl) (hdb : (x == ("__debug__" : Str)) = false := by decide)
    (he : starEach (e :: es) X.env = (false, eval e X.env) :: starEach es X.env := by rfl) (hpl : (backTo pos (starEach es X.env)).any (·.1) = false := by rfl) : PE X (.Call (.Name x p) (e :: es) [] pos) (rdE S B M W .mix (eCallM φ fr)) := by
  obtain ⟨fn, fd, ps, F, h1, h2, h3⟩ := C.ex
  exact e_callM (hK ▸ F) tk hr hgd hg h1 (hK ▸ h2) (hK ▸ h3) C.ln ha hdb he hpl
theorem callC0 {k n : Nat} {φ : Fv J} (hK : X.K = S.K) (tk : Takes X W) (C : Cal S X.prog X.w X.mg X.base k x n φ) (hr : Room k X.A) (hgd : X.A.guards = some []) (hg : Gl X x := by rfl) (hdb : (x == ("__debug__" : Str)) = false := by decide) :
    PE X (.Call (.Name x p) [] [] pos) (rdE S B M W .clean (eCall φ aNil)) := by
  obtain ⟨fn, fd, ps, F, h1, h2, h3⟩ := C.ex
  exact e_call0 (hK ▸ F) tk hr hgd hg h1 (hK ▸ h2) (hK ▸ h3) C.ln hdb
/-! ranges -/
theorem lR1 (hml : X.mg "list" = none) (hm : X.mg "range" = none) (ha : PE X a (rdE S B M W .mix fa)) (hc : X.calm = true := by rfl) (hgl : Gl X "list" := by rfl) (hg : Gl X "range" := by rfl) (hs : starEach [a] X.env = [(false, eval a X.env)] := by rfl)
    (hs2 : starEach [.Call (.Name "range" p) [a] [] pos] X.env = [(false, eval (.Call (.Name "range" p) [a] [] pos) X.env)] := by rfl) : PE X (.Call (.Name "list" p1) [.Call (.Name "range" p) [a] [] pos] [] p2) (rdE S B M W .fresh (eLrg (iRng1 fa))) := e_lrg1 hc hgl hml hg hm ha hs hs2
theorem lR2 (hml : X.mg "list" = none) (hm : X.mg "range" = none) (ha : PE X a (rdE S B M W .mix fa)) (hb : PE X b (rdE S B M W .mix fb)) (hc : X.calm = true := by rfl) (hgl : Gl X "list" := by rfl) (hg : Gl X "range" := by rfl) (hs : starEach [a, b] X.env = (false, eval a X.env) :: starEach [b] X.env := by rfl) (hs1 : starEach [b] X.env = [(false, eval b X.env)] := by rfl)
    (hp : (backTo pos (starEach [b] X.env)).any (·.1) = false := by rfl) (hs2 : starEach [.Call (.Name "range" p) [a, b] [] pos] X.env = [(false, eval (.Call (.Name "range" p) [a, b] [] pos) X.env)] := by rfl) :
    PE X (.Call (.Name "list" p1) [.Call (.Name "range" p) [a, b] [] pos] [] p2) (rdE S B M W .fresh (eLrg (iRng2 fa fb))) := e_lrg2 hc hgl hml hg hm ha hb hs hs1 hp hs2
theorem tR1 (hml : X.mg "tuple" = none) (hm : X.mg "range" = none) (ha : PE X a (rdE S B M W .mix fa)) (hc : X.calm = true := by rfl) (hgl : Gl X "tuple" := by rfl) (hg : Gl X "range" := by rfl) (hs : starEach [a] X.env = [(false, eval a X.env)] := by rfl)
    (hs2 : starEach [.Call (.Name "range" p) [a] [] pos] X.env = [(false, eval (.Call (.Name "range" p) [a] [] pos) X.env)] := by rfl) : PE X (.Call (.Name "tuple" p1) [.Call (.Name "range" p) [a] [] pos] [] p2) (rdE S B M W .clean (eTrg (iRng1 fa))) := e_trg1 hc hgl hml hg hm ha hs hs2
theorem tR2 (hml : X.mg "tuple" = none) (hm : X.mg "range" = none) (ha : PE X a (rdE S B M W .mix fa)) (hb : PE X b (rdE S B M W .mix fb)) (hc : X.calm = true := by rfl) (hgl : Gl X "tuple" := by rfl) (hg : Gl X "range" := by rfl) (hs : starEach [a, b] X.env = (false, eval a X.env) :: starEach [b] X.env := by rfl) (hs1 : starEach [b] X.env = [(false, eval b X.env)] := by rfl)
    (hp : (backTo pos (starEach [b] X.env)).any (·.1) = false := by rfl) (hs2 : starEach [.Call (.Name "range" p) [a, b] [] pos] X.env = [(false, eval (.Call (.Name "range" p) [a, b] [] pos) X.env)] := by rfl) :
    PE X (.Call (.Name "tuple" p1) [.Call (.Name "range" p) [a, b] [] pos] [] p2) (rdE S B M W .clean (eTrg (iRng2 fa fb))) := e_trg2 hc hgl hml hg hm ha hb hs hs1 hp hs2
/-! what is walked over -/
theorem iSq (hK : X.K = S.K) (h : PE X e (rdE S B M W .clean f)) : PI X tg e (rdI S B M W true false (iSeq f)) := i_seq hK h
theorem iR1 (hm : X.mg "range" = none) (ha : PE X a (rdE S B M W .mix fa)) (hg : Gl X "range" := by rfl) (hs : starEach [a] X.env = [(false, eval a X.env)] := by rfl) : PI X tg (.Call (.Name "range" p) [a] [] pos) (rdI S B M W true false (iRng1 fa)) := i_rng1 hg hm ha hs
theorem iR2 (hm : X.mg "range" = none) (ha : PE X a (rdE S B M W .mix fa)) (hb : PE X b (rdE S B M W .mix fb)) (hg : Gl X "range" := by rfl) (hs : starEach [a, b] X.env = [(false, eval a X.env), (false, eval b X.env)] := by rfl) (hs2 : starEach [b] X.env = [(false, eval b X.env)] := by rfl) :
    PI X tg (.Call (.Name "range" p) [a, b] [] pos) (rdI S B M W true false (iRng2 fa fb)) := i_rng2 hg hm ha hb hs hs2
theorem iEn {elts : List Expr} {kt : Nat} {tpos : Pos} (hK : X.K = S.K) (hm : X.mg "enumerate" = none) (ha : PE X a (rdE S B M W .clean fa)) (hg : Gl X "enumerate" := by rfl) (hs : starEach [a] X.env = [(false, eval a X.env)] := by rfl) : PI X (.Tuple elts kt tpos) (.Call (.Name "enumerate" p) [a] [] pos) (rdI S B M W true true (iEnm fa)) := i_enum hK hg hm ha hs
theorem iZp {elts : List Expr} {kt : Nat} {tpos : Pos} (hK : X.K = S.K) (hm : X.mg "zip" = none) (ha : PE X a (rdE S B M W .clean fa)) (hb : PE X b (rdE S B M W .clean fb)) (hg : Gl X "zip" := by rfl)
    (hs : starEach [a, b] X.env = (false, eval a X.env) :: starEach [b] X.env := by rfl) (hs2 : starEach [b] X.env = [(false, eval b X.env)] := by rfl) (hpl : (backTo pos (starEach [b] X.env)).any (·.1) = false := by rfl) :
    PI X (.Tuple elts kt tpos) (.Call (.Name "zip" p) [a, b] [] pos) (rdI S B M W true true (iZip fa fb)) := i_zip hK hg hm ha hb hs hs2 hpl
theorem iOw (i : Nat) (hK : X.K = S.K) (hM : M i = true := by rfl) (hN : X.N[i]? = some x := by rfl) (hv : Vis X.env.scope x := by first | exact Or.inl rfl | exact Or.inr (Or.inl rfl) | exact Or.inr (Or.inr rfl)) (hd : (x == ("__debug__" : Str)) = false := by decide) (hcd : (x == ("__classdict__" : Str)) = false := by decide) :
    PI X tg (.Name x pos) (rdI S B M W false false (iSeq (eVar i))) := i_own hK hM hN hv hd hcd
/-! targets -/
theorem gN (i : Nat) (hN : X.N.Nodup) (hM : M i = false := by rfl) (hi : X.N[i]? = some x := by rfl) (hx : Loc X.env.scope x := by first | exact Or.inl rfl | exact Or.inr rfl) (hf : X.fn x = true ∨ X.env.scope.names.lookup x = some .local := by first | exact Or.inl rfl | exact Or.inr rfl) : PG X (.Name x pos) (rdG S B M false [i] (gNm i)) := g_name hM hN hi hx hf
theorem gs0 : PGs X [] (rdGs S B M [] gsNil) := gs_nil
theorem gsC {ks ks' : List Nat} {γ : Gv} {γs : Gvs} (h1 : PG X e (rdG S B M false ks γ)) (h2 : PGs X es (rdGs S B M ks' γs)) (hs : (assignEach (e :: es) X.env).map (·.2) = assign e X.env :: (assignEach es X.env).map (·.2) := by rfl) : PGs X (e :: es) (rdGs S B M (ks ++ ks') (gsCons γ γs)) := gs_cons h1 h2 hs
theorem gsN_len : ∀ ds m m', gsNil ds m = some m' → ds.length = 0 := fun ds m m' h => by
  unfold gsNil at h
  split at h
  · rfl
  · cases h
theorem gsC_len {γ : Gv} {γs : Gvs} {n : Nat} (h : ∀ ds m m', γs ds m = some m' → ds.length = n) : ∀ ds m m', gsCons γ γs ds m = some m' → ds.length = n + 1 := fun ds m m' q => by
  unfold gsCons at q
  split at q
  · split at q
    · rw [List.length_cons, h _ _ _ q]
    · cases q
  · cases q
theorem gT {w : Bool} {kt n : Nat} {ks : List Nat} {γs : Gvs} (hK : X.K = S.K) (hl : ∀ ds m m', γs ds m = some m' → ds.length = n) (h : PGs X es (rdGs S B M ks γs)) (hc : X.calm = true := by rfl) (hn : (assignEach es X.env).length = n := by rfl) (hst : (assignEach es X.env).findIdx? (·.1) = none := by rfl) :
    PG X (.Tuple es kt pos) (rdG S B M w ks (gTp γs)) := g_tup hK hc h hn hst hl
/-! comprehensions -/
variable {scope : Scope} {fi : Iv J} {γ : Gv} {ft : Tv J} {ks : List Nat} {cc w : Bool}
theorem lcF (own : List (Str × Nat)) (hN : X.N.Nodup) (ok : BlkOk X.N X.env.scope scope own) (hi : PI X tg iter (rdI S B M W cc w fi))
    (hg : ∀ (s : Shared) (H : Hp) (C : Addr) (cl : List (Str × Addr)) (fp : List Addr), PG (X.blk s H scope (compEnvC scope cl C X.env) fp) tg (rdG S B M w ks γ)) (ht : ∀ (s : Shared) (H : Hp) (C : Addr) (cl : List (Str × Addr)) (fp : List Addr), PTs (X.blk s H scope (compEnvC scope cl C X.env) fp) ifs (rdT S B M W0 ft))
    (he : ∀ (s : Shared) (H : Hp) (C : Addr) (cl : List (Str × Addr)) (fp : List Addr), PE (X.blk s H scope (compEnvC scope cl C X.env) fp) elt (rdE S B M W0 .clean fe)) (hks : ∀ k ∈ ks, k ∈ own.map (·.2) := by decide) (hc : X.calm = true := by rfl) (hs : ∀ x, foldedSetIterable iter X.env x = pure x := by intro _; rfl) :
    PE X (.ListComp elt [⟨tg, iter, ifs, 0⟩] scope pos) (rdE S B M W .fresh (eComp (own.map (·.2)) fi γ ft fe)) := e_comp hc hN hi ok hks hg ht he hs
theorem ts0 : PTs X [] (rdT S B M W tYesD) := ts_nil
theorem ts1 {t : Tv J} (h : PT X c (rdT S B M W t)) : PTs X [c] (rdT S B M W t) := pts_one h
theorem setLcO (i : Nat) (own : List (Str × Nat)) (hN : X.N.Nodup) (ok : BlkOk X.N X.env.scope scope own) (hi : PI X tg iter (rdI S B M W cc w fi))
    (hg : ∀ (s : Shared) (H : Hp) (C : Addr) (cl : List (Str × Addr)) (fp : List Addr), PG (X.blk s H scope (compEnvC scope cl C X.env) fp) tg (rdG S B M w ks γ)) (ht : ∀ (s : Shared) (H : Hp) (C : Addr) (cl : List (Str × Addr)) (fp : List Addr), PTs (X.blk s H scope (compEnvC scope cl C X.env) fp) ifs (rdT S B M W0 ft))
    (he : ∀ (s : Shared) (H : Hp) (C : Addr) (cl : List (Str × Addr)) (fp : List Addr), PE (X.blk s H scope (compEnvC scope cl C X.env) fp) elt (rdE S B M W0 .clean fe)) (hks : ∀ k ∈ ks, k ∈ own.map (·.2) := by decide) (hM : M i = true := by rfl) (hy : X.N[i]? = some y := by rfl) (hyl : X.env.scope.names.lookup y = some .local := by rfl)
    (hsw : swapsWith (.ListComp elt [⟨tg, iter, ifs, 0⟩] scope pos) (some (.Name y py)) spos.line X.env = pure true := by rfl) (hc : X.calm = true := by rfl) (hs : ∀ x, foldedSetIterable iter X.env x = pure x := by intro _; rfl) :
    PS X (.Assign [.Name y py] (.ListComp elt [⟨tg, iter, ifs, 0⟩] scope pos) spos) (rdS S B M W (sSet i (eComp (own.map (·.2)) fi γ ft fe))) := s_setLcO hM hc hN hy hyl hsw hi ok hks hg ht he hs
theorem setLc (i : Nat) (own : List (Str × Nat)) (hN : X.N.Nodup) (ok : BlkOk X.N X.env.scope scope own) (hi : PI X tg iter (rdI S B M W cc w fi))
    (hg : ∀ (s : Shared) (H : Hp) (C : Addr) (cl : List (Str × Addr)) (fp : List Addr), PG (X.blk s H scope (compEnvC scope cl C X.env) fp) tg (rdG S B M w ks γ)) (ht : ∀ (s : Shared) (H : Hp) (C : Addr) (cl : List (Str × Addr)) (fp : List Addr), PTs (X.blk s H scope (compEnvC scope cl C X.env) fp) ifs (rdT S B M W0 ft))
    (he : ∀ (s : Shared) (H : Hp) (C : Addr) (cl : List (Str × Addr)) (fp : List Addr), PE (X.blk s H scope (compEnvC scope cl C X.env) fp) elt (rdE S B M W0 .clean fe)) (hks : ∀ k ∈ ks, k ∈ own.map (·.2) := by decide) (hM : M i = false := by rfl) (hy : X.N[i]? = some y := by rfl) (hyl : X.env.scope.names.lookup y = some .local := by rfl)
    (hsw : swapsWith (.ListComp elt [⟨tg, iter, ifs, 0⟩] scope pos) (some (.Name y py)) spos.line X.env = pure true := by rfl) (hc : X.calm = true := by rfl) (hs : ∀ x, foldedSetIterable iter X.env x = pure x := by intro _; rfl) :
    PS X (.Assign [.Name y py] (.ListComp elt [⟨tg, iter, ifs, 0⟩] scope pos) spos) (rdS S B M W (sSet i (eComp (own.map (·.2)) fi γ ft fe))) := s_setLc hM hc hN hy hyl hsw hi ok hks hg ht he hs
end
/-! statements -/
section
variable {S : Js J} {B : Bs} {M : Nat → Bool} {W : WX} {X : Cx} {e ek a b c d o tg iter : Expr} {es : List Expr} {st : Stmt} {body body' rest : List Stmt} {pos p p1 p2 p3 pt pt2 px py pz np ap ap2 np2 : Pos} {f fa fb fc fe fk : Ev J} {fs fs' : Sv J} {tc : Tv J} {x y z : Str} {γ : Gv} {ks : List Nat} {kt k2 : Nat}
theorem zC (h1 : PS X st (rdS S B M W fs)) (h2 : PSs X rest (rdS S B M W fs')) : PSs X (st :: rest) (rdS S B M W (sSeq fs fs')) := s_cons h1 h2
theorem zSet (i : Nat) (hN : X.N.Nodup) (he : PE X e (rdE S B M W .clean fe)) (hM : M i = false := by rfl) (hi : X.N[i]? = some x := by rfl) (hx : Loc X.env.scope x := by first | exact Or.inl rfl | exact Or.inr rfl) (hs : swapsWith e (some (.Name x py)) pos.line X.env = pure false := by rfl) (hf : X.fn x = true ∨ X.env.scope.names.lookup x = some .local := by first | exact Or.inl rfl | exact Or.inr rfl) :
    PS X (.Assign [.Name x py] e pos) (rdS S B M W (sSet i fe)) := s_set hM hN hi hx he hs hf
theorem zSetO (i : Nat) (hN : X.N.Nodup) (he : PE X e (rdE S B M W .fresh fe)) (hM : M i = true := by rfl) (hi : X.N[i]? = some x := by rfl) (hx : Loc X.env.scope x := by first | exact Or.inl rfl | exact Or.inr rfl) (hs : swapsWith e (some (.Name x py)) pos.line X.env = pure false := by rfl) (hf : X.fn x = true ∨ X.env.scope.names.lookup x = some .local := by first | exact Or.inl rfl | exact Or.inr rfl) :
    PS X (.Assign [.Name x py] e pos) (rdS S B M W (sSet i fe)) := s_setO hM hN hi hx he hs hf
theorem zAsg (he : PE X e (rdE S B M W .clean fe)) (hg : PG X tg (rdG S B M false ks γ)) (hs : swapsWithSole [tg] e pos.line X.env = pure false := by rfl) (hw : swappedStores [tg] e X.env = pure none := by rfl) (h1 : (assignEach [tg] X.env).map (·.2) = [assign tg X.env] := by rfl) : PS X (.Assign [tg] e pos) (rdS S B M W (sAsg γ fe)) := s_asg he hg hs hw h1
theorem zAdd (i : Nat) (hN : X.N.Nodup) (he : PE X e (rdE S B M W .mix fe)) (hM : M i = false := by rfl) (hi : X.N[i]? = some x := by rfl) (hx : Loc X.env.scope x := by first | exact Or.inl rfl | exact Or.inr rfl) (hf : X.fn x = true ∨ X.env.scope.names.lookup x = some .local := by first | exact Or.inl rfl | exact Or.inr rfl) :
    PS X (.AugAssign (.Name x py) .Add e pos) (rdS S B M W (sAug addI i fe)) := s_aug (h := fun i j => i + j) (fun d e z q => by unfold addI at q; split at q <;> cases q; exact ⟨_, _, rfl, rfl, rfl⟩) ip_add hM hN hi hx he hf
theorem zPr2 (i k : Nat) (hN : X.N.Nodup) (ha : PE X a (rdE S B M W (clOf M i) fa)) (hb : PE X b (rdE S B M W (clOf M k) fb)) (hc : X.calm = true := by rfl) (hi : X.N[i]? = some x := by rfl) (hk : X.N[k]? = some y := by rfl) (hik : i ≠ k := by decide) (hx : X.env.scope.names.lookup x = some .local := by rfl) (hy : X.env.scope.names.lookup y = some .local := by rfl)
    (hs1 : starEach [a, b] X.env = (false, eval a X.env) :: starEach [b] X.env := by rfl) (hs2 : starEach [b] X.env = [(false, eval b X.env)] := by rfl)
    (hw : swappedStores [.Tuple [.Name x px, .Name y py] kt pt] (.Tuple [a, b] k2 pt2) X.env = pure (some [x, y]) := by rfl) (hs : swapsWithSole [.Tuple [.Name x px, .Name y py] kt pt] (.Tuple [a, b] k2 pt2) pos.line X.env = pure false := by rfl) :
    PS X (.Assign [.Tuple [.Name x px, .Name y py] kt pt] (.Tuple [a, b] k2 pt2) pos) (rdS S B M W (sPr2 i k fa fb)) := s_pr2 hc hN hi hk hik hx hy ha hb hs1 hs2 hw hs
theorem zPr3 (i k l : Nat) (hN : X.N.Nodup) (ha : PE X a (rdE S B M W (clOf M i) fa)) (hb : PE X b (rdE S B M W (clOf M k) fb)) (hcc : PE X c (rdE S B M W (clOf M l) fc)) (hc : X.calm = true := by rfl) (hi : X.N[i]? = some x := by rfl) (hk : X.N[k]? = some y := by rfl) (hl : X.N[l]? = some z := by rfl) (hik : i ≠ k := by decide) (hil : i ≠ l := by decide) (hkl : k ≠ l := by decide) (hx : X.env.scope.names.lookup x = some .local := by rfl) (hy : X.env.scope.names.lookup y = some .local := by rfl) (hz : X.env.scope.names.lookup z = some .local := by rfl)
    (hs1 : starEach [a, b, c] X.env = (false, eval a X.env) :: starEach [b, c] X.env := by rfl) (hs2 : starEach [b, c] X.env = (false, eval b X.env) :: starEach [c] X.env := by rfl) (hs3 : starEach [c] X.env = [(false, eval c X.env)] := by rfl)
    (hw : swappedStores [.Tuple [.Name x px, .Name y py, .Name z pz] kt pt] (.Tuple [a, b, c] k2 pt2) X.env = pure (some [x, y, z]) := by rfl) (hs : swapsWithSole [.Tuple [.Name x px, .Name y py, .Name z pz] kt pt] (.Tuple [a, b, c] k2 pt2) pos.line X.env = pure false := by rfl) :
    PS X (.Assign [.Tuple [.Name x px, .Name y py, .Name z pz] kt pt] (.Tuple [a, b, c] k2 pt2) pos) (rdS S B M W (sPr3 i k l fa fb fc)) := s_pr3 hc hN hi hk hl hik hil hkl hx hy hz ha hb hcc hs1 hs2 hs3 hw hs
theorem clO {i : Nat} (h : PE X e (rdE S B M W .fresh fe)) (hM : M i = true := by rfl) : PE X e (rdE S B M W (clOf M i) fe) := by unfold clOf; rw [hM]; exact h
theorem clC {i : Nat} (h : PE X e (rdE S B M W .clean fe)) (hM : M i = false := by rfl) : PE X e (rdE S B M W (clOf M i) fe) := by unfold clOf; rw [hM]; exact h
theorem mtN (i : Nat) (n : X.N[i]? = some x := by rfl) (v : Vis X.env.scope x := by first | exact Or.inl rfl | exact Or.inr (Or.inl rfl) | exact Or.inr (Or.inr rfl)) (d : (x == ("__debug__" : Str)) = false := by decide) (c : (x == ("__classdict__" : Str)) = false := by decide) : MtN X i x := ⟨n, v, d, c⟩
theorem zApp (i : Nat) (he : PE X e (rdE S B M W .clean fe)) (hx : MtN X i x := by exact mtN _) (hM : M i = true := by rfl) (hl : (ap.endLine == p.line) = true := by rfl) (hs : starEach [e] X.env = [(false, eval e X.env)] := by rfl)
    (hb : attributeBase (.Name x np) "append" X.env (eval (.Name x np) X.env) = eval (.Name x np) X.env := by rfl) (hf : ((backTo p (starEach [e] X.env)).all (fun x => !x.1) && (backToKw p (keywordEach [] X.env)).all (fun x => x.1.isSome)
      && decide (([e] : List Expr).length + ([] : List Keyword).length + (if ([] : List Keyword).isEmpty then 0 else 1) < 30)) = true := by rfl) (hsw : swapsWith (.Call (.Attribute (.Name x np) "append" ap) [e] [] p) none pos.line X.env = pure false := by rfl) :
    PS X (.Expr (.Call (.Attribute (.Name x np) "append" ap) [e] [] p) pos) (rdS S B M W (sApp i fe)) := s_app hM hx he hl hs hb hf hsw
theorem zExt (i : Nat) (he : PE X e (rdE S B M W .clean fe)) (hx : MtN X i x := by exact mtN _) (hM : M i = true := by rfl) (hl : (ap.endLine == p.line) = true := by rfl) (hs : starEach [e] X.env = [(false, eval e X.env)] := by rfl)
    (hb : attributeBase (.Name x np) "extend" X.env (eval (.Name x np) X.env) = eval (.Name x np) X.env := by rfl) (hf : ((backTo p (starEach [e] X.env)).all (fun x => !x.1) && (backToKw p (keywordEach [] X.env)).all (fun x => x.1.isSome)
      && decide (([e] : List Expr).length + ([] : List Keyword).length + (if ([] : List Keyword).isEmpty then 0 else 1) < 30)) = true := by rfl) (hsw : swapsWith (.Call (.Attribute (.Name x np) "extend" ap) [e] [] p) none pos.line X.env = pure false := by rfl) :
    PS X (.Expr (.Call (.Attribute (.Name x np) "extend" ap) [e] [] p) pos) (rdS S B M W (sExt i fe)) := s_ext hM hx he hl hs hb hf hsw
theorem zAppPop (i k : Nat) (he : PE X e (rdE S B M W .mix fe)) (hx : MtN X i x := by exact mtN _) (hy : MtN X k y := by exact mtN _) (hMi : M i = true := by rfl) (hMk : M k = true := by rfl) (hl : (ap.endLine == p.line) = true := by rfl) (hl2 : (ap2.endLine == p2.line) = true := by rfl)
    (hs : starEach [.Call (.Attribute (.Name y np2) "pop" ap2) [e] [] p2] X.env = [(false, eval (.Call (.Attribute (.Name y np2) "pop" ap2) [e] [] p2) X.env)] := by rfl) (hs2 : starEach [e] X.env = [(false, eval e X.env)] := by rfl)
    (hb : attributeBase (.Name x np) "append" X.env (eval (.Name x np) X.env) = eval (.Name x np) X.env := by rfl) (hb2 : attributeBase (.Name y np2) "pop" X.env (eval (.Name y np2) X.env) = eval (.Name y np2) X.env := by rfl)
    (hf : ((backTo p (starEach [.Call (.Attribute (.Name y np2) "pop" ap2) [e] [] p2] X.env)).all (fun x => !x.1) && (backToKw p (keywordEach [] X.env)).all (fun x => x.1.isSome)
      && decide (([.Call (.Attribute (.Name y np2) "pop" ap2) [e] [] p2] : List Expr).length + ([] : List Keyword).length + (if ([] : List Keyword).isEmpty then 0 else 1) < 30)) = true := by rfl)
    (hf2 : ((backTo p2 (starEach [e] X.env)).all (fun x => !x.1) && (backToKw p2 (keywordEach [] X.env)).all (fun x => x.1.isSome)
      && decide (([e] : List Expr).length + ([] : List Keyword).length + (if ([] : List Keyword).isEmpty then 0 else 1) < 30)) = true := by rfl)
    (hsw : swapsWith (.Call (.Attribute (.Name x np) "append" ap) [.Call (.Attribute (.Name y np2) "pop" ap2) [e] [] p2] [] p) none pos.line X.env = pure false := by rfl) :
    PS X (.Expr (.Call (.Attribute (.Name x np) "append" ap) [.Call (.Attribute (.Name y np2) "pop" ap2) [e] [] p2] [] p) pos) (rdS S B M W (sAppPop i k fe)) := s_appPop hMi hMk hx hy he hl hl2 hs hs2 hb hb2 hf hf2 hsw
theorem zPopTo (i : Nat) (hg : PG X tg (rdG S B M false ks γ)) (hx : MtN X i x := by exact mtN _) (hM : M i = true := by rfl) (hl : (ap.endLine == p.line) = true := by rfl) (hb : attributeBase (.Name x np) "pop" X.env (eval (.Name x np) X.env) = eval (.Name x np) X.env := by rfl)
    (hs : swapsWithSole [tg] (.Call (.Attribute (.Name x np) "pop" ap) [] [] p) pos.line X.env = pure false := by rfl) (hw : swappedStores [tg] (.Call (.Attribute (.Name x np) "pop" ap) [] [] p) X.env = pure none := by rfl)
    (h1 : (assignEach [tg] X.env).map (·.2) = [assign tg X.env] := by rfl) : PS X (.Assign [tg] (.Call (.Attribute (.Name x np) "pop" ap) [] [] p) pos) (rdS S B M W (sPopTo i γ)) := s_popTo (ap2 := ap) (np2 := np) hM hx hg hl hb hs hw h1
theorem zSetIx (i : Nat) (he : PE X e (rdE S B M W .clean fe)) (hk : PE X ek (rdE S B M W .mix fk)) (hx : MtN X i x := by exact mtN _) (hM : M i = true := by rfl) (hs : swapsWithSole [.Subscript (.Name x np) ek p] e pos.line X.env = pure false := by rfl) (hw : swappedStores [.Subscript (.Name x np) ek p] e X.env = pure none := by rfl)
    (h1 : (assignEach [.Subscript (.Name x np) ek p] X.env).map (·.2) = [assign (.Subscript (.Name x np) ek p) X.env] := by rfl)
    (ha : ∀ v, assign (.Subscript (.Name x np) ek p) X.env v = (do
      let ov ← holding [v] (eval (.Name x np) X.env)
      let iv ← holding [v, ov] (eval ek X.env)
      standAt p
      holding [v, ov, iv] (setItem ov iv v)
      release [v, ov, iv] []) := by intro _; rfl) :
    PS X (.Assign [.Subscript (.Name x np) ek p] e pos) (rdS S B M W (sSetIx i fk fe)) := s_setIx hM hx he hk hs hw h1 ha
variable {fb2 : Sv J} {fi : Iv J} {w : Bool}
theorem zWhile (hc : PT X c (rdT S B M W tc)) (hb : PSs X body (rdS S B M W fs)) (hp : PassesOwn (model X.prog X.w) X.A X.env X.xe := by exact PassesOwn.never) : PS X (.While c body [] pos) (rdS S B M W (sWhile tc fs)) := s_while hp hc hb
theorem zFor (hi : PI X tg iter (rdI S B M W true w fi)) (hg : PG X tg (rdG S B M w ks γ)) (hb : PSs X body (rdS S B M W fs)) (hp : PassesOwn (model X.prog X.w) X.A X.env X.xe := by exact PassesOwn.never) (hc : X.calm = true := by rfl) (hs : ∀ x, foldedSetIterable iter X.env x = pure x := by intro _; rfl) :
    PS X (.For tg iter body [] pos) (rdS S B M W (sFor fi γ fs)) := s_for hp hc hi hg hb hs
end
end Mp

/-! MpK: the built-in functions, for printed terms. -/
namespace Mp
open PySem PySem.Spec L2
open PyProof.Rows hiding St
variable {J : Type}
theorem bt_len : bootBuiltins "len" = some (.builtin "len") := by decide +kernel
theorem bt_sum : bootBuiltins "sum" = some (.builtin "sum") := by decide +kernel
theorem bt_abs : bootBuiltins "abs" = some (.builtin "abs") := by decide +kernel
theorem bt_max : bootBuiltins "max" = some (.builtin "max") := by decide +kernel
theorem bt_min : bootBuiltins "min" = some (.builtin "min") := by decide +kernel
theorem bt_repr : bootBuiltins "repr" = some (.builtin "repr") := by decide +kernel
theorem bt_all : bootBuiltins "all" = some (.builtin "all") := by decide +kernel
theorem bt_sorted : bootBuiltins "sorted" = some (.builtin "sorted") := by decide +kernel
theorem bt_tuple : bootBuiltins "tuple" = some (.type "tuple") := by decide +kernel
theorem bt_list : bootBuiltins "list" = some (.type "list") := by decide +kernel
theorem bt_int : bootBuiltins "int" = some (.type "int") := by decide +kernel
theorem bt_str : bootBuiltins "str" = some (.type "str") := by decide +kernel
section
variable {S : Js J} {B : Bs} {M : Nat → Bool} {W : WX} {X : Cx} {e : Expr} {es : List Expr} {pos p : Pos} {fr : Av J} {ci : Bool}
theorem kLen (hK : X.K = S.K) (hm : X.mg "len" = none) (ha : PA X (e :: es) (rdA S B M W ci fr)) (hg : Gl X "len" := by rfl) (he : starEach (e :: es) X.env = (false, eval e X.env) :: starEach es X.env := by rfl) (hpl : (backTo pos (starEach es X.env)).any (·.1) = false := by rfl) :
    PE X (.Call (.Name "len" p) (e :: es) [] pos) (rdE S B M W .clean (eB lenB fr)) := kB cr_lenD (by rw [hK]; exact s_len) hm bt_len ha hg (by decide) (by decide) he hpl
theorem kSum (hK : X.K = S.K) (hm : X.mg "sum" = none) (ha : PA X (e :: es) (rdA S B M W ci fr)) (hg : Gl X "sum" := by rfl) (hc : X.calm = true := by rfl) (he : starEach (e :: es) X.env = (false, eval e X.env) :: starEach es X.env := by rfl) (hpl : (backTo pos (starEach es X.env)).any (·.1) = false := by rfl) :
    PE X (.Call (.Name "sum" p) (e :: es) [] pos) (rdE S B M W .clean (eB sumB fr)) := kB (cr_sumD hc) (by rw [hK]; exact s_sum) hm bt_sum ha hg (by decide) (by decide) he hpl
theorem kAbs (hm : X.mg "abs" = none) (ha : PA X (e :: es) (rdA S B M W ci fr)) (hg : Gl X "abs" := by rfl) (he : starEach (e :: es) X.env = (false, eval e X.env) :: starEach es X.env := by rfl) (hpl : (backTo pos (starEach es X.env)).any (·.1) = false := by rfl) :
    PE X (.Call (.Name "abs" p) (e :: es) [] pos) (rdE S B M W .clean (eB absB fr)) := kB call_abs s_abs hm bt_abs ha hg (by decide) (by decide) he hpl
theorem kMax (hK : X.K = S.K) (hm : X.mg "max" = none) (ha : PA X (e :: es) (rdA S B M W ci fr)) (hg : Gl X "max" := by rfl) (hc : X.calm = true := by rfl) (he : starEach (e :: es) X.env = (false, eval e X.env) :: starEach es X.env := by rfl) (hpl : (backTo pos (starEach es X.env)).any (·.1) = false := by rfl) :
    PE X (.Call (.Name "max" p) (e :: es) [] pos) (rdE S B M W .clean (eB maxB fr)) := kB (cr_maxD hc) (by rw [hK]; exact s_max) hm bt_max ha hg (by decide) (by decide) he hpl
theorem kMin (hK : X.K = S.K) (hm : X.mg "min" = none) (ha : PA X (e :: es) (rdA S B M W ci fr)) (hg : Gl X "min" := by rfl) (hc : X.calm = true := by rfl) (he : starEach (e :: es) X.env = (false, eval e X.env) :: starEach es X.env := by rfl) (hpl : (backTo pos (starEach es X.env)).any (·.1) = false := by rfl) :
    PE X (.Call (.Name "min" p) (e :: es) [] pos) (rdE S B M W .clean (eB minB fr)) := kB (cr_minD hc) (by rw [hK]; exact s_min) hm bt_min ha hg (by decide) (by decide) he hpl
theorem kRepr (hK : X.K = S.K) (hgd : X.A.guards = some []) (hu : X.A.units + 64 < cLine) (hm : X.mg "repr" = none) (ha : PA X (e :: es) (rdA S B M W ci fr)) (hg : Gl X "repr" := by rfl) (he : starEach (e :: es) X.env = (false, eval e X.env) :: starEach es X.env := by rfl) (hpl : (backTo pos (starEach es X.env)).any (·.1) = false := by rfl) :
    PE X (.Call (.Name "repr" p) (e :: es) [] pos) (rdE S B M W .clean (eB reprB fr)) := kB (cr_repr hK hgd hu) s_repr hm bt_repr ha hg (by decide) (by decide) he hpl
theorem kAll (hK : X.K = S.K) (hm : X.mg "all" = none) (ha : PA X (e :: es) (rdA S B M W ci fr)) (hg : Gl X "all" := by rfl) (hc : X.calm = true := by rfl) (he : starEach (e :: es) X.env = (false, eval e X.env) :: starEach es X.env := by rfl) (hpl : (backTo pos (starEach es X.env)).any (·.1) = false := by rfl) :
    PE X (.Call (.Name "all" p) (e :: es) [] pos) (rdE S B M W .clean (eB allB fr)) := kB (cr_all hc) (by rw [hK]; exact s_all) hm bt_all ha hg (by decide) (by decide) he hpl
theorem kSorted (hK : X.K = S.K) (hm : X.mg "sorted" = none) (ha : PA X (e :: es) (rdA S B M W ci fr)) (hg : Gl X "sorted" := by rfl) (he : starEach (e :: es) X.env = (false, eval e X.env) :: starEach es X.env := by rfl) (hpl : (backTo pos (starEach es X.env)).any (·.1) = false := by rfl) :
    PE X (.Call (.Name "sorted" p) (e :: es) [] pos) (rdE S B M W .fresh (eB sortedB fr)) := kB cr_sortedI (by rw [hK]; exact s_sorted) hm bt_sorted ha hg (by decide) (by decide) he hpl
theorem kTupC (hK : X.K = S.K) (hm : X.mg "tuple" = none) (ha : PA X (e :: es) (rdA S B M W true fr)) (hg : Gl X "tuple" := by rfl) (he : starEach (e :: es) X.env = (false, eval e X.env) :: starEach es X.env := by rfl) (hpl : (backTo pos (starEach es X.env)).any (·.1) = false := by rfl) :
    PE X (.Call (.Name "tuple" p) (e :: es) [] pos) (rdE S B M W .clean (eB tupleB fr)) := kT (ci := true) call_tupleF (by rw [hK]; exact s_tuple) hm bt_tuple ha hg (by decide) (by decide) he hpl
theorem kTupX (hK : X.K = S.K) (hm : X.mg "tuple" = none) (ha : PA X (e :: es) (rdA S B M W false fr)) (hg : Gl X "tuple" := by rfl) (he : starEach (e :: es) X.env = (false, eval e X.env) :: starEach es X.env := by rfl) (hpl : (backTo pos (starEach es X.env)).any (·.1) = false := by rfl) :
    PE X (.Call (.Name "tuple" p) (e :: es) [] pos) (rdE S B M W .mix (eB tupleB fr)) := kT (ci := false) call_tupleF (by rw [hK]; exact s_tuple) hm bt_tuple ha hg (by decide) (by decide) he hpl
theorem kLstF (hK : X.K = S.K) (hm : X.mg "list" = none) (ha : PA X (e :: es) (rdA S B M W true fr)) (hg : Gl X "list" := by rfl) (he : starEach (e :: es) X.env = (false, eval e X.env) :: starEach es X.env := by rfl) (hpl : (backTo pos (starEach es X.env)).any (·.1) = false := by rfl) :
    PE X (.Call (.Name "list" p) (e :: es) [] pos) (rdE S B M W .fresh (eB listB fr)) := kT (ci := true) call_list_of (by rw [hK]; exact s_list) hm bt_list ha hg (by decide) (by decide) he hpl
theorem kInt (hm : X.mg "int" = none) (ha : PA X (e :: es) (rdA S B M W ci fr)) (hg : Gl X "int" := by rfl) (he : starEach (e :: es) X.env = (false, eval e X.env) :: starEach es X.env := by rfl) (hpl : (backTo pos (starEach es X.env)).any (·.1) = false := by rfl) :
    PE X (.Call (.Name "int" p) (e :: es) [] pos) (rdE S B M W .clean (eB intB fr)) := kT call_int1 s_int hm bt_int ha hg (by decide) (by decide) he hpl
end
end Mp

/-! MpP: isinstance, in, constants of the module, items and parts of an owned list, pop. -/
namespace Mp
open PySem PySem.Spec L2
open PyProof.Rows hiding St
variable {J : Type}
theorem bt_bool : bootBuiltins "bool" = some (.type "bool") := by decide +kernel
theorem bt_dict : bootBuiltins "dict" = some (.type "dict") := by decide +kernel
theorem hv_of {A : Around} {k : Nat} (hr : Room k A) : A.units + 65 < cLine := by have := hr.un; omega
/-! ### isinstance(e, T), T a built-in type -/
def tyD : D → Option String
  | .non => some "NoneType"
  | .bl _ => some "bool"
  | .int _ => some "int"
  | .str _ => some "str"
  | .tup _ => some "tuple"
  | .lst _ => some "list"
  | .dct _ => some "dict"
  | _ => none
def isiD (T : String) (d : D) : Option D := match tyD d with
  | some t => match kitB t T with | some b => some (.bl b) | none => none
  | none => none
section
variable {S : Js J} {B : Bs} {M : Nat → Bool} {W : WX} {X : Cx} {e a b : Expr} {pos p p2 : Pos} {fe fa fb : Ev J} {x : Str}
theorem ty_of {G H : Hp} {d : D} {v : V} {t : String} (h : Rp S G d v) (gh : Same G H) (e : tyD d = some t) : TyX S.K H v (.type t) := by
  cases h with
  | non => cases e; exact .base .non
  | bl b => cases e; exact .base (.bl b)
  | int i => cases e; exact .base (.int i)
  | str y => cases e; exact .base (.str y)
  | tup h _ =>
    cases e
    rcases h with ⟨o, h, _⟩ | ⟨o, its, n, h1, h2, _⟩
    · exact .fTuple (gh _ _ h)
    · exact .kTuple h1 h2
  | lst h _ => cases e; exact .base (.lst (gh _ _ h))
  | dct h _ _ => cases e; exact .base (.dK (gh _ _ h))
  | jar => cases e
  | obj _ => cases e
  | ins _ _ _ => cases e
theorem e_isi {T : String} (hK : X.K = S.K) (hmi : X.mg "isinstance" = none) (hm : X.mg x = none) (hv : bootBuiltins x = some (.type T)) (he : PE X e (rdE S B M W .mix fe)) (hgi : Gl X "isinstance" := by rfl) (hg : Gl X x := by rfl) (hn : x ≠ "__name__" := by decide) (hd : (x == ("__debug__" : Str)) = false := by decide)
    (hs : starEach [e, .Name x p2] X.env = (false, eval e X.env) :: starEach [.Name x p2] X.env := by rfl) (hpl : (backTo pos (starEach [.Name x p2] X.env)).any (·.1) = false := by rfl) :
    PE X (.Call (.Name "isinstance" p) [e, .Name x p2] [] pos) (rdE S B M W .clean (eUn (isiD T) fe)) :=
  PE.imp (pe_callB call_isi hgi hmi (by decide +kernel) (pa_cons he (pa_cons (pe_bltn (v := .ty T) hg hm hv rfl hn hd) pa_nil rfl) hs) (by decide) (by decide) hs hpl) fun r H Q ⟨g, m, j, P, E, ok, hf, q, xo⟩ => by
    refine ⟨g, m, j, _, E, ok, hf, fun d1 j1 g1 v H1 hh l1 ok1 w => ?_, xo⟩
    obtain ⟨z, h2, p⟩ := hh
    unfold isiD at h2
    split at h2
    · rename_i t ht
      split at h2
      · rename_i bb hb
        cases h2
        exact ⟨v, .ty T, .type t, .type T, bb, rfl, .ty T, by rw [hK]; exact ty_of w ok1.b.gh ht, kit_ty hb, q _ _ g1 _ H1 p l1 ok1 (.bl _)⟩
      · cases h2
    · cases h2
/-! ### x in xs, a list or a tuple of plain data -/
def inB (x y : D) : Option Bool := match py x, py y with
  | some p, some (.list ds) => if SeqAt.shaped p && SeqAt.shaped (.list ds) then some (ds.any fun z => PyData.eqv z p) else none
  | some p, some (.tuple ds) => if SeqAt.shaped p && SeqAt.shaped (.tuple ds) then some (ds.any fun z => PyData.eqv z p) else none
  | _, _ => none
def inD (x y : D) : Option D := match inB x y with | some b => some (.bl b) | none => none
def ninD (x y : D) : Option D := match inB x y with | some b => some (.bl (!b)) | none => none
def rInTu (K : PySem.W.Frag) : R2 := fun x y H Q => ∃ d ds, Dp K H x d ∧ Dp K H y (.tuple ds) ∧ SeqAt.shaped d = true ∧ SeqAt.shaped (.tuple ds) = true ∧ Q (.bl (ds.any fun z => PyData.eqv z d)) H
def rNotInTu (K : PySem.W.Frag) : R2 := fun x y H Q => ∃ d ds, Dp K H x d ∧ Dp K H y (.tuple ds) ∧ SeqAt.shaped d = true ∧ SeqAt.shaped (.tuple ds) = true ∧ Q (.bl (!ds.any fun z => PyData.eqv z d)) H
theorem op_inTu (hu : X.A.units + 65 < cLine) : OpR X (compareOp .In) (rInTu X.K) := by
  intro pins s σ H x y v u Q I rx ry h
  obtain ⟨d, ds, hd, he, sd, se, q⟩ := h
  obtain ⟨as, a1⟩ := Dp.reads I d x v hd rx
  obtain ⟨bs, a2⟩ := Dp.reads I (.tuple ds) y u he ry
  exact SeqAt.in_tuple_reads a2 a1 (SeqAt.canLay_of_shaped se) (SeqAt.canLay_of_shaped sd) (room_in_shaped sd hu) ⟨.bl _, H, I, rfl, q⟩
theorem op_notInTu (hu : X.A.units + 65 < cLine) : OpR X (compareOp .NotIn) (rNotInTu X.K) := by
  intro pins s σ H x y v u Q I rx ry h
  obtain ⟨d, ds, hd, he, sd, se, q⟩ := h
  obtain ⟨as, a1⟩ := Dp.reads I d x v hd rx
  obtain ⟨bs, a2⟩ := Dp.reads I (.tuple ds) y u he ry
  exact SeqAt.notIn_tuple_reads a2 a1 (SeqAt.canLay_of_shaped se) (SeqAt.canLay_of_shaped sd) (room_in_shaped sd hu) ⟨.bl _, H, I, rfl, q⟩
theorem inB_cases {F : Hp} {d1 d2 : D} {v1 v2 : V} {b : Bool} (h1 : Rp S F d1 v1) (h2 : Rp S F d2 v2) (e : inB d1 d2 = some b) :
    (∃ p ds, Dp S.K F v1 p ∧ Dp S.K F v2 (.list ds) ∧ SeqAt.shaped p = true ∧ SeqAt.shaped (.list ds) = true ∧ (ds.any fun z => PyData.eqv z p) = b) ∨
    ∃ p ds, Dp S.K F v1 p ∧ Dp S.K F v2 (.tuple ds) ∧ SeqAt.shaped p = true ∧ SeqAt.shaped (.tuple ds) = true ∧ (ds.any fun z => PyData.eqv z p) = b := by
  unfold inB at e
  split at e
  · split at e
    · rename_i p ds hp hq hs
      rw [Bool.and_eq_true] at hs
      cases e
      exact .inl ⟨p, ds, dp_of h1 hp (noDict hs.1), dp_of h2 hq (noDict hs.2), hs.1, hs.2, rfl⟩
    · cases e
  · split at e
    · rename_i p ds hp hq hs
      rw [Bool.and_eq_true] at hs
      cases e
      exact .inr ⟨p, ds, dp_of h1 hp (noDict hs.1), dp_of h2 hq (noDict hs.2), hs.1, hs.2, rfl⟩
    · cases e
  · cases e
theorem s_in {ci : Bool} : OpS S (fun x y H Q => rInD S.K x y H Q ∨ rInTu S.K x y H Q) inD ci .clean := by
  intro B g H j d1 d2 d v1 v2 Q ok h1 h2 e q
  unfold inD at e
  split at e
  · rename_i b he
    cases e
    rcases inB_cases h1 h2 he with ⟨p, ds, c1, c2, c3, c4, c5⟩ | ⟨p, ds, c1, c2, c3, c4, c5⟩
    · exact .inl ⟨p, ds, Dp_mono (ok.sub ci) c1, Dp_mono (ok.sub ci) c2, c3, c4, by rw [c5]; exact ans (B := B) ok q fun _ => .bl _⟩
    · exact .inr ⟨p, ds, Dp_mono (ok.sub ci) c1, Dp_mono (ok.sub ci) c2, c3, c4, by rw [c5]; exact ans (B := B) ok q fun _ => .bl _⟩
  · cases e
theorem s_notIn {ci : Bool} : OpS S (fun x y H Q => rNotInD S.K x y H Q ∨ rNotInTu S.K x y H Q) ninD ci .clean := by
  intro B g H j d1 d2 d v1 v2 Q ok h1 h2 e q
  unfold ninD at e
  split at e
  · rename_i b he
    cases e
    rcases inB_cases h1 h2 he with ⟨p, ds, c1, c2, c3, c4, c5⟩ | ⟨p, ds, c1, c2, c3, c4, c5⟩
    · exact .inl ⟨p, ds, Dp_mono (ok.sub ci) c1, Dp_mono (ok.sub ci) c2, c3, c4, by rw [c5]; exact ans (B := B) ok q fun _ => .bl _⟩
    · exact .inr ⟨p, ds, Dp_mono (ok.sub ci) c1, Dp_mono (ok.sub ci) c2, c3, c4, by rw [c5]; exact ans (B := B) ok q fun _ => .bl _⟩
  · cases e
theorem kIn (hK : X.K = S.K) (hu : X.A.units + 65 < cLine) : OpR X (compareOp .In) (fun x y H Q => rInD S.K x y H Q ∨ rInTu S.K x y H Q) := hK ▸ (op_inD hu).or (op_inTu hu)
theorem kNotIn (hK : X.K = S.K) (hu : X.A.units + 65 < cLine) : OpR X (compareOp .NotIn) (fun x y H Q => rNotInD S.K x y H Q ∨ rNotInTu S.K x y H Q) := hK ▸ (op_notInD hu).or (op_notInTu hu)
theorem eIn {op : CmpOp} {r : R2} {φ : D → D → Option D} (hr : OpR X (compareOp op) r) (ho : OpS S r φ false .clean) (ha : PE X a (rdE S B M W .mix fa)) (hb : PE X b (rdE S B M W .mix fb)) (h : behindInMarks op b = false := by rfl) : PE X (.Compare a [op] [b] pos) (rdE S B M W .clean (eOp φ fa fb)) := e_cmp (ci := false) hr ho ha hb h
theorem tIn {op : CmpOp} {r : R2} {φ : D → D → Option D} (hr : OpR X (compareOp op) r) (ho : OpS S r φ false .clean) (ha : PE X a (rdE S B M W .mix fa)) (hb : PE X b (rdE S B M W .mix fb)) (h : behindInMarks op b = false := by rfl) : PT X (.Compare a [op] [b] pos) (rdT S B M W (tBl (eOp φ fa fb))) := t_cmp (ci := false) hr ho ha hb h
/-! ### constants of the module -/
theorem gI {i : Int} (hm : ∃ t, X.mg x = some (.int i t)) (hg : Gl X x := by rfl) (hd : (x == ("__debug__" : Str)) = false := by decide) : PE X (.Name x pos) (rdE S B M W .clean (eC (.int i))) := by
  obtain ⟨t, h⟩ := hm
  exact e_c (pe_glob (v := .int i) hg h ⟨t, rfl⟩ hd) fun _ => .int _
theorem gS {i : Str} (hm : ∃ t, X.mg x = some (.str i t)) (hg : Gl X x := by rfl) (hd : (x == ("__debug__" : Str)) = false := by decide) : PE X (.Name x pos) (rdE S B M W .clean (eC (.str i))) := by
  obtain ⟨t, h⟩ := hm
  exact e_c (pe_glob (v := .str i) hg h ⟨t, rfl⟩ hd) fun _ => .str _
/-! ### items and parts of an owned list: they are frozen -/
/-- the name i as a frozen value, where it is an owned list: not a copy, so for reading parts alone -/
theorem ixO {i : Nat} {np : Pos} (hK : X.K = S.K) (hb : PE X b (rdE S B M W .mix fb)) (hx : MtN X i x := by exact mtN _) (hM : M i = true := by rfl) (hs : PlainIx b := by intro _ _; rfl) : PE X (.Subscript (.Name x np) b pos) (rdE S B M W .clean (eOp idxD (eVar i) fb)) :=
  PE.imp (pe_ix ix_list hx.pe hb hs) fun R H Q ⟨g, m, j, P, E, ok, ⟨d0, h0, hf⟩, q, xo⟩ => by
    obtain ⟨a, hr, ho⟩ := ok.s.ow i _ h0 hM
    refine ⟨_, hr, g, m, j, _, E, ok, hf, fun y j2 g1 v H1 hh l1 ok1 w => ?_, xo⟩
    obtain ⟨z, h3, p⟩ := hh
    unfold idxD at h3
    split at h3
    · rename_i xs k
      obtain ⟨_, vs, hG, t⟩ := own_lst (ho.le l1)
      obtain ⟨v', e1, e2⟩ := t.atI h3
      exact ⟨a, vs, k, v', rfl, int_of w, .of (ok1.b.gh _ _ hG), e1, q _ _ g1 v' H1 p l1 ok1 e2⟩
    · obtain ⟨_, ⟨_, _, e, _⟩ | ⟨_, _, e, _⟩⟩ := ho <;> cases e
    · obtain ⟨_, ⟨_, _, e, _⟩ | ⟨_, _, e, _⟩⟩ := ho <;> cases e
    · cases h3
/-- a part of an owned list: a new list -/
theorem slO {i : Nat} {np : Pos} {lo hi : Option Expr} {fl fh : Pv J} (hK : X.K = S.K) (hl : PO X lo (rdP S B M W fl)) (hh : PO X hi (rdP S B M W fh)) (hx : MtN X i x := by exact mtN _) (hM : M i = true := by rfl) : PE X (.Subscript (.Name x np) (.Slice lo hi none p2) pos) (rdE S B M W .fresh (eSl sliceL (eVar i) fl fh)) :=
  PE.imp (pe_slice sl_list hx.pe hl hh) fun R H Q ⟨g, m, j, P, E, ok, ⟨d0, h0, hf⟩, q, xo⟩ => by
    obtain ⟨a, hr, ho⟩ := ok.s.ow i _ h0 hM
    refine ⟨_, hr, g, m, j, _, E, ok, hf, fun l2 j2 g1 H1 h2 l1 ok1 => ⟨g1, m, _, _, E, ok1, h2, fun l3 j3 g2 H2 hh l2' ok2 => ?_, xo.le l1.f⟩, xo⟩
    obtain ⟨z, h4, p⟩ := hh
    unfold sliceL at h4
    split at h4
    · rename_i xs
      cases h4
      obtain ⟨_, vs, hG, t⟩ := own_lst (ho.le (l1.trans l2'))
      refine ⟨a, vs, rfl, .of (ok2.b.gh _ _ hG), fun pp hp => ?_⟩
      obtain ⟨n1, n2, n3, n4⟩ := ok2.b.hn hp
      refine q _ _ (g2.see pp (.lst (cutV vs l2 l3))) _ _ p ((l1.trans l2').trans (Le.see n2)) ⟨ok2.b.see _ hp, ok2.s.le (Le.see n2)⟩ ⟨pp, rfl, (l1.trans l2').g.free n2, n1, .inl ⟨_, _, rfl, upd_same, ?_⟩⟩
      show RpL S g2.F (cutD xs l2 l3) (cutV vs l2 l3)
      unfold cutD cutV
      rw [← t.length]
      exact (t.drop _).take _
    · cases h4
/-- tuple(xs), list(xs) of an owned list -/
theorem tuO {i : Nat} {np : Pos} (hm : X.mg "tuple" = none) (hx : MtN X i x := by exact mtN _) (hM : M i = true := by rfl) (hg : Gl X "tuple" := by rfl) (he : starEach [.Name x np] X.env = [(false, eval (.Name x np) X.env)] := by rfl) :
    PE X (.Call (.Name "tuple" p) [.Name x np] [] pos) (rdE S B M W .clean (eB tupleB (aCons (eVar i) aNil))) :=
  PE.imp (pe_callTy call_tupleF hg hm bt_tuple (pa_cons hx.pe pa_nil he) (by decide) (by decide) he rfl) fun R H Q ⟨g, m, j, P, E, ok, ⟨d0, h0, z, hz, pz⟩, q, xo⟩ => by
    obtain ⟨a, hr, ho⟩ := ok.s.ow i _ h0 hM
    obtain ⟨hF, ⟨ds, vs, rfl, e, t⟩ | ⟨kds, kvs, rfl, _⟩⟩ := ho
    · cases hz
      refine ⟨_, hr, a, vs, rfl, .inl ⟨.of (ok.b.gh _ _ e), fun p o hp hd => ?_⟩⟩
      obtain ⟨n1, n2, n3, n4⟩ := ok.b.hn hp
      exact q _ _ (g.frz p (.frz o (.tup vs))) _ _ pz (Le.frz ok.b.fg n2) ⟨ok.b.frz _ hp, ok.s.le (Le.frz ok.b.fg n2)⟩ (Rp.tup (.inl ⟨o, upd_same, hd⟩) (t.mono (same_new n1)))
    · cases hz
theorem liO {i : Nat} {np : Pos} (hm : X.mg "list" = none) (hx : MtN X i x := by exact mtN _) (hM : M i = true := by rfl) (hg : Gl X "list" := by rfl) (he : starEach [.Name x np] X.env = [(false, eval (.Name x np) X.env)] := by rfl) :
    PE X (.Call (.Name "list" p) [.Name x np] [] pos) (rdE S B M W .fresh (eB listB (aCons (eVar i) aNil))) :=
  PE.imp (pe_callTy call_list_of hg hm bt_list (pa_cons hx.pe pa_nil he) (by decide) (by decide) he rfl) fun R H Q ⟨g, m, j, P, E, ok, ⟨d0, h0, z, hz, pz⟩, q, xo⟩ => by
    obtain ⟨a, hr, ho⟩ := ok.s.ow i _ h0 hM
    obtain ⟨hF, ⟨ds, vs, rfl, e, t⟩ | ⟨kds, kvs, rfl, _⟩⟩ := ho
    · cases hz
      refine ⟨_, hr, a, vs, rfl, .inl (.of (ok.b.gh _ _ e)), fun p hp => ?_⟩
      obtain ⟨n1, n2, n3, n4⟩ := ok.b.hn hp
      exact q _ _ (g.see p (.lst vs)) _ _ pz (Le.see n2) ⟨ok.b.see _ hp, ok.s.le (Le.see n2)⟩ ⟨p, rfl, n2, n1, .inl ⟨_, _, rfl, upd_same, t⟩⟩
    · cases hz
end
/-! ### γ = i.pop(e) -/
def sPopAt (i : Nat) (fe : Ev J) (γ : Gv) (m : Sd) (j : J) (P : Fl → Sd → J → Prop) (E : XP J) : Prop :=
  ∃ ys, m[i]? = some (some (.lst ys)) ∧ fe m j (fun d j1 => ∃ n y m1, d = .int n ∧ 0 ≤ n ∧ n < (ys.length : Int) ∧ ys.length ≤ LINE ∧ ys[n.toNat]? = some y ∧ γ y (m.set i (some (.lst (ys.eraseIdx n.toNat)))) = some m1 ∧ P .next m1 j1) E
instance {i : Nat} {fe : Ev J} {γ : Gv} [h1 : MoE fe] : MoS (sPopAt i fe γ) := ⟨fun ⟨ys, e, h⟩ q x => ⟨ys, e, h1.mo h (fun _ _ ⟨n, y, m1, a1, a2, a3, a4, a5, a6, p⟩ => ⟨n, y, m1, a1, a2, a3, a4, a5, a6, q _ _ _ p⟩) x⟩⟩
section
variable {S : Js J} {B : Bs} {M : Nat → Bool} {W : WX} {X : Cx} {e tg : Expr} {pos p np ap : Pos} {fe : Ev J} {x : Str} {γ : Gv} {ks : List Nat}
theorem zPopAt (i : Nat) (he : PE X e (rdE S B M W .mix fe)) (hg : PG X tg (rdG S B M false ks γ)) (hx : MtN X i x := by exact mtN _) (hM : M i = true := by rfl) (hl : (ap.endLine == p.line) = true := by rfl) (hs2 : starEach [e] X.env = [(false, eval e X.env)] := by rfl)
    (hb : attributeBase (.Name x np) "pop" X.env (eval (.Name x np) X.env) = eval (.Name x np) X.env := by rfl)
    (hf2 : ((backTo p (starEach [e] X.env)).all (fun x => !x.1) && (backToKw p (keywordEach [] X.env)).all (fun x => x.1.isSome)
      && decide (([e] : List Expr).length + ([] : List Keyword).length + (if ([] : List Keyword).isEmpty then 0 else 1) < 30)) = true := by rfl)
    (hs : swapsWithSole [tg] (.Call (.Attribute (.Name x np) "pop" ap) [e] [] p) pos.line X.env = pure false := by rfl) (hw : swappedStores [tg] (.Call (.Attribute (.Name x np) "pop" ap) [e] [] p) X.env = pure none := by rfl)
    (h1 : (assignEach [tg] X.env).map (·.2) = [assign tg X.env] := by rfl) : PS X (.Assign [tg] (.Call (.Attribute (.Name x np) "pop" ap) [e] [] p) pos) (rdS S B M W (sPopAt i fe γ)) :=
  PS.imp (ps_asg (pe_bm PySem.F.plainAttrs_list PySem.F.slot_list_pop PySem.F.type_list_pop mt_popAt hx.pe (pa_cons he pa_nil hs2) hb hf2 hl hs2 rfl) hg hs hw h1) fun E r H ⟨g, m, j, P, Ep, ok, ⟨ys, hm, hf⟩, q, xo⟩ => by
    obtain ⟨a, hr, ho⟩ := ok.s.ow i _ hm hM
    obtain ⟨_, ws0, hG0, _⟩ := own_lst ho
    refine ⟨_, hr, .inl ⟨rfl, _, .of (ok.b.gh _ _ hG0)⟩, g, m, j, _, Ep, ok, hf, fun d j1 g1 v H1 hh l1 ok1 w => ?_, xo⟩
    obtain ⟨n, yy, m1, rfl, c1, c2, c4, h4, h5, p⟩ := hh
    obtain ⟨hF, ws, hG, t⟩ := own_lst (ho.le l1)
    obtain ⟨wy, hwy, ry⟩ := t.get h4
    have hlen := t.length
    refine ⟨a, ws, n, n.toNat, wy, rfl, by rw [int_of w], ok1.b.gh _ _ hG, by omega, by have : LINE = 1000000 := rfl; omega, by rw [← hlen]; exact seqIx c1 c2, hwy, ?_⟩
    have ok2 : OkB S B (g1.put a (.lst (ws.eraseIdx n.toNat))) (upd H1 a (.lst (ws.eraseIdx n.toNat))) j1 := ok1.b.put hF hG (by intro x y z; cases z)
    have sl2 : Slots S (g1.put a (.lst (ws.eraseIdx n.toNat))) M r (m.set i (some (.lst (ys.eraseIdx n.toNat)))) := ok1.s.put hM hm hr ⟨hF, .inl ⟨_, _, rfl, upd_same, t.eraseIdx _⟩⟩
    exact ⟨_, _, _, _, _, ⟨ok2, sl2⟩, .inl ry, h5, fun r' ok' _ _ => q _ _ _ p (g1.put a (.lst (ws.eraseIdx n.toNat))) r' _ l1.f ok'⟩
end
section
@[simp] theorem isi_int {i : Int} : isiD "int" (.int i) = some (.bl true) := rfl
@[simp] theorem isi_bool {i : Int} : isiD "bool" (.int i) = some (.bl false) := rfl
@[simp] theorem isi_tup {xs : List D} : isiD "tuple" (.tup xs) = some (.bl true) := rfl
end
end Mp

/-! MpT: sorted, max and min of a tuple of ints. -/
namespace SrtO
open PySem PySem.Spec PyProof.Rows
section
variable {prog : Program} {w : World} {A : Around} {E : Value → Shared → Prop} {s : Shared}
/-- a tuple's items, gathered into a list -/
theorem gather_tup {l : Addr} {vs : List Value} {Q : List Value → Shared → Prop} (hl : IsTup s.heap l vs.toArray) (hsz : vs.length ≤ sizeLine)
    (h : Q vs { s with heap := (s.heap.push (seqObj "list" #[] 0)).update s.heap.objs.size (Obj.mapSeq (· ++ vs.toArray)) }) : wpAny (model prog w) A (collect (.ref l)) Q E s := by
  obtain ⟨o, hob, hcl, n, hda⟩ := id hl
  unfold collect
  refine wpAny_bind (wpAny_runValue (codeAny_builtin entry_proto_collect' ?_))
  show wpAny _ _ (do again (.builtin "list.__iadd__" ⟨[← newList [], .ref l], []⟩)) _ _ s
  refine wpAny_bind (wpAny_newList (wpAny_pure ⟨Code.quiet_builtin _ (by decide +kernel), codeAny_builtin entry_list_iadd' ?_⟩))
  show wpAny _ _ (Builtin.List.listExtendWith (.ref s.heap.objs.size) (.ref l) (.ref s.heap.objs.size)) _ _ { s with heap := s.heap.push (seqObj "list" #[] 0) }
  unfold Builtin.List.listExtendWith
  have hob' : (s.heap.push (seqObj "list" #[] 0)).get? l = some o := Heap.get?_push_of_some _ hob
  refine wpAny_bind (wpAny_typeOf (T := "tuple") ⟨o, hob', hcl⟩ ?_)
  have ht : (Value.type "tuple" == Value.type "tuple") = true := by rfl
  rw [if_pos (by rw [ht]; simp)]
  refine wpAny_bind (listItems_at hob' hda ?_)
  refine wpAny_bind (listItems_at (xs := #[]) (n := 0) (Heap.get?_push_size _ rfl) rfl ?_)
  rw [if_neg (by simp)]
  refine wpAny_bind (listUpdate_at (xs := #[]) (n := 0) (Heap.get?_push_size _ rfl) rfl ?_ (Nat.zero_le _) (by show (#[] ++ vs.toArray).size ≤ sizeLine + 1; simp only [Array.size_append, List.size_toArray, List.length_nil]; omega))
  refine wpAny_pure ?_
  show wpAny (model prog w) A (do
      let ob ← load s.heap.objs.size
      match ob.data with
      | .seq xs _ => pure xs.toList
      | _ => unsupported "internal:collect") Q E { s with heap := (s.heap.push (seqObj "list" #[] 0)).update s.heap.objs.size (Obj.mapSeq (· ++ vs.toArray)) }
  refine wpAny_bind (wpAny_load (get?_update_seq (Heap.get?_push_size _ rfl) _) ?_)
  show wpAny _ _ (pure ((#[] : Array Value) ++ vs.toArray).toList) Q E _
  rw [show ((#[] : Array Value) ++ vs.toArray).toList = vs by simp]
  exact wpAny_pure h
theorem sorted_ordTup {l : Addr} {vs : List Value} {ltv : Value → Value → Bool} {Q : Value → Shared → Prop} (O : Swo ltv) (hl : IsTup s.heap l vs.toArray) (hz : vs.length ≤ sizeLine)
    (hS : 2 ≤ vs.length → ∀ (h₁ : Heap) (a : Addr), h₁.get? a = some (seqObj "list" vs.toArray 0) → (∀ b o, s.heap.get? b = some o → b ≠ a ∧ h₁.get? b = some o) → SortableO prog w A.in1.in1 { s with heap := h₁ } a vs ltv)
    (h : ∀ out : List Value, Srtd ltv out → Stb ltv out vs → Q (.ref (s.heap.objs.size + 1)) { s with heap := sortedAll s.heap vs out.toArray }) :
    wpAny (model prog w) A (call (.builtin "sorted") [.ref l]) Q E s := by
  refine Calls.call_function_entry kind_sorted plain_sorted entry_sorted (args_sorted1 _) ?_
  unfold Builtin.«sorted»
  refine wpAny_bind (m := checkCount "sorted" 1 1 _) (wpAny_pure ?_)
  refine wpAny_bind (gather_tup hl hz ?_)
  refine wpAny_bind (wpAny_newList ?_ hz)
  generalize hP : (s.heap.push (seqObj "list" #[] 0)).update s.heap.objs.size (Obj.mapSeq (· ++ vs.toArray)) = P at *
  have hsz : P.objs.size = s.heap.objs.size + 1 := by rw [← hP, Heap.size_update, size_push']
  have hnew : (P.push (seqObj "list" vs.toArray 0)).get? (s.heap.objs.size + 1) = some (seqObj "list" vs.toArray 0) := by
    rw [← hsz]; exact Heap.get?_push_size _ rfl
  have old : ∀ b o, s.heap.get? b = some o → b ≠ s.heap.objs.size + 1 ∧ (P.push (seqObj "list" vs.toArray 0)).get? b = some o := fun b o q => by
    have hlt : b < s.heap.objs.size := Heap.lt_size q
    refine ⟨Nat.ne_of_lt (Nat.lt_succ_of_lt hlt), Heap.get?_push_of_some _ ?_⟩
    rw [← hP, Heap.get?_update_ne _ _ _ _ (Nat.ne_of_lt hlt)]
    exact Heap.get?_push_of_some _ q
  show wpAny _ _ _ _ _ { s with heap := P.push (seqObj "list" vs.toArray 0) }
  rw [hsz]
  refine wpAny_bind (wpAny_holding (wpAny_call_entry slot_list_sort ⟨_, hnew, rfl⟩ entry_list_sort (list_sort_ord O hnew hz (fun h2 => hS h2 _ _ hnew old) fun out hs hb => ⟨_, rfl, ?_⟩) (args_list_sort _)))
  subst hP
  exact wpAny_pure ⟨_, rfl, h out hs hb⟩
end
end SrtO
namespace Mp
open PySem PySem.Spec L2
open PyProof.Rows hiding St
section
variable {X : Cx}
def rSortedT (K : PySem.W.Frag) : List V → Hp → VK → Prop := fun vs H Q => ∃ (a : Addr) (ns : List Int), vs = [V.ref a] ∧ SqT K H a (ns.map V.int) ∧
  ∀ (ns' : List Int) (p : Addr), ns'.Perm ns → ns'.Pairwise (· ≤ ·) → H p = none → Q (.ref p) (upd H p (.lst (ns'.map V.int)))
theorem cr_sortedT : CallR X (.builtin "sorted") (rSortedT X.K) := by
  intro pins s σ H vs us Q I r h
  obtain ⟨a, ns, rfl, hs, q⟩ := h
  obtain ⟨its, rv, hl, hz⟩ := I.tuple hs
  rw [Vals.ref1 r]
  have hi := rv.ints
  refine SrtO.sorted_ordTup SrtO.swo_int hl (by rw [← rv.length]; exact hz) (fun h2 h₁ a' _ _ => SrtO.ints_sortable hi h2) fun out h1 h2 => ?_
  obtain ⟨k1, k2, k3⟩ := SrtO.ints_out hi h1 h2
  obtain ⟨ep, hat⟩ := PyProof.Rows.sortedAll_at s.heap its out.toArray
  refine ⟨.ref _, upd H (s.heap.objs.size + 1) (.lst ((out.map SrtO.iv).map V.int)), I.laid (t' := s.toks) (fun _ _ => PyProof.Rows.sortedAll_old) (Nat.le_succ _) ⟨?_, out, ep, vals_of_ints k1, hat⟩, rfl, q _ _ k2 k3 (I.hok.fresh (Nat.le_succ _))⟩
  rw [List.length_map, k2.length_eq]
  rwa [List.length_map] at hz
def rMaxT (K : PySem.W.Frag) : List V → Hp → VK → Prop := fun vs H Q => ∃ (a : Addr) (ns : List Int), vs = [V.ref a] ∧ SqT K H a (ns.map V.int) ∧ 0 < ns.length ∧ ∀ m, m ∈ ns → (∀ y, y ∈ ns → y ≤ m) → Q (.int m) H
theorem cr_maxT (hc : X.calm = true) : CallR X (.builtin "max") (rMaxT X.K) := by
  intro pins s σ H vs us Q I r h
  obtain ⟨a, ns, rfl, hs, hne, q⟩ := h
  obtain ⟨its, rv, ht, hz⟩ := I.tuple hs
  rw [Vals.ref1 r]
  have hlen : its.length = ns.length := by have := rv.length; rw [List.length_map] at this; exact this.symm
  have hT : s.heap.IsTuple a its.toArray := ht
  refine call_max_walk (wpAny_pyIter_tuple hT ?_)
  have hlt : a < s.heap.objs.size := by
    obtain ⟨o, ho, _⟩ := ht
    exact Heap.lt_size ho
  have hval : ∀ i v, its.toArray[i]? = some v → ∃ t, v = Value.int (ns.getD i 0) t := fun i v hv => by
    have hi : i < ns.length := by
      have := (Array.getElem?_eq_some_iff.mp hv).1
      simpa [hlen] using this
    obtain ⟨u, hu, t, hu2⟩ := rv.get (i := i) (x := .int ns[i]) (by simp [hi])
    have e : its[i]? = some v := by simpa using hv
    rw [hu] at e
    cases e
    exact ⟨t, by rw [hu2]; simp [List.getD_eq_getElem?_getD, hi]⟩
  refine ⟨_, _, _, _, _, _, _, rfl, Walks.tuple (A := X.A.in1) (I.ok.hd hc) _ a (Nat.ne_of_lt hlt) its.toArray, ⟨⟨_, Heap.get?_push_size _ rfl, rfl, rfl⟩, ?_⟩, ?_, by simpa [hlen] using hne, CmpOf.ints_gt (fun i => ns.getD i 0) hval, fun v h' tk hP hk => ?_⟩
  · obtain ⟨o, ho, hc2⟩ := ht
    exact ⟨o, Heap.get?_push_of_some _ ho, hc2⟩
  · intro b hb
    show b < (s.heap.push _).objs.size
    rw [Heap.size_push]
    rcases List.mem_cons.mp hb with e | hb
    · subst e; exact Nat.lt_succ_self _
    · rcases List.mem_cons.mp hb with e | hb
      · subst e; exact Nat.lt_succ_of_lt hlt
      · cases hb
  · obtain ⟨t, rfl⟩ := hval _ v hP
    obtain ⟨m1, m2⟩ := argBest_gt (fun i => ns.getD i 0) (its.toArray.size - 1)
    have hs2 : its.toArray.size = ns.length := by simp [hlen]
    refine ⟨.int _, H, I.kept fun b o eo => hk b o (fun hm => by
      rcases List.mem_cons.mp hm with e1 | hm
      · exact absurd (e1 ▸ Heap.lt_size eo) (Nat.lt_irrefl _)
      · cases hm) (Heap.get?_push_of_some _ eo), ⟨_, rfl⟩, q _ ?_ fun y hy => ?_⟩
    · have hb : argBest (fun i j => decide (ns.getD i 0 > ns.getD j 0)) (its.toArray.size - 1) < ns.length := by omega
      rw [List.getD_eq_getElem?_getD, List.getElem?_eq_getElem hb]
      exact List.getElem_mem hb
    · obtain ⟨i, hi, rfl⟩ := List.mem_iff_getElem.mp hy
      have := m2 i (by omega)
      rw [List.getD_eq_getElem?_getD, List.getElem?_eq_getElem hi] at this
      exact this
end
/-! by data -/
def sortD : List D → Option D
  | [.lst xs] => match ints? xs with | some ns => some (.lst ((isort ns).map D.int)) | none => none
  | [.tup xs] => match ints? xs with | some ns => some (.lst ((isort ns).map D.int)) | none => none
  | _ => none
def maxD : List D → Option D
  | [.int i, .int k] => some (.int (if k > i then k else i))
  | [.lst xs] => match ints? xs with | some (a :: r) => some (.int (maxL a r)) | _ => none
  | [.tup xs] => match ints? xs with | some (a :: r) => some (.int (maxL a r)) | _ => none
  | _ => none
section
variable {J : Type} {S : Js J} {B : Bs} {M : Nat → Bool} {W : WX} {X : Cx} {e : Expr} {es : List Expr} {pos p : Pos} {fr : Av J} {ci : Bool}
theorem s_sortD : CallS S (fun vs H Q => rSortedI S.K vs H Q ∨ rSortedT S.K vs H Q) sortD ci .fresh := by
  intro B g H j ds d vs Q ok h e q
  unfold sortD at e
  split at e
  · rename_i xs
    exact .inl (s_sorted (ci := ci) B g H j _ d vs Q ok h e q)
  · rename_i xs
    split at e
    · rename_i ns hn
      cases e
      have hx := ints?_some hn
      subst hx
      cases h with
      | cons h1 h2 =>
        cases h2
        obtain ⟨a, ws, rfl, ha, ra⟩ := tup_of h1
        have hv := RpL.of_ints ra
        subst hv
        refine .inr ⟨a, ns, rfl, (ha.same (ok.sub ci)).t, fun ns' p hp hs np => ?_⟩
        have e2 := isort_unique hp hs
        subst e2
        obtain ⟨n1, n2, n3, n4⟩ := ok.hn np
        exact q (g.see p (.lst ((isort ns).map V.int))) _ _ (Le.see n2) (ok.see _ np) ⟨p, rfl, n2, n1, .inl ⟨_, _, rfl, upd_same, RpL.ints _⟩⟩
    · cases e
  · cases e
theorem s_maxD : CallS S (fun vs H Q => rMaxD S.K vs H Q ∨ rMaxT S.K vs H Q) maxD ci .clean := by
  intro B g H j ds d vs Q ok h e q
  unfold maxD at e
  split at e
  · exact .inl (s_max (ci := ci) B g H j _ d vs Q ok h e q)
  · exact .inl (s_max (ci := ci) B g H j _ d vs Q ok h e q)
  · rename_i xs
    split at e
    · rename_i a0 r0 hn
      cases e
      have hx := ints?_some hn
      subst hx
      cases h with
      | cons h1 h2 =>
        cases h2
        obtain ⟨a, ws, rfl, ha, ra⟩ := tup_of h1
        have hv := RpL.of_ints ra
        subst hv
        refine .inr ⟨a, a0 :: r0, rfl, (ha.same (ok.sub ci)).t, by simp, fun m hm hmax => ?_⟩
        obtain ⟨m1, m2⟩ := maxL_spec r0 a0
        have e2 : m = maxL a0 r0 := Int.le_antisymm (m2 m hm) (hmax _ m1)
        subst e2
        exact q g _ H (Le.refl g) ok (.int _)
    · cases e
  · cases e
theorem kSortD (hK : X.K = S.K) (hm : X.mg "sorted" = none) (ha : PA X (e :: es) (rdA S B M W ci fr)) (hg : Gl X "sorted" := by rfl) (he : starEach (e :: es) X.env = (false, eval e X.env) :: starEach es X.env := by rfl) (hpl : (backTo pos (starEach es X.env)).any (·.1) = false := by rfl) :
    PE X (.Call (.Name "sorted" p) (e :: es) [] pos) (rdE S B M W .fresh (eB sortD fr)) := kB (cr_sortedI.or cr_sortedT) (by rw [hK]; exact s_sortD) hm bt_sorted ha hg (by decide) (by decide) he hpl
theorem kMaxD (hK : X.K = S.K) (hm : X.mg "max" = none) (ha : PA X (e :: es) (rdA S B M W ci fr)) (hg : Gl X "max" := by rfl) (hc : X.calm = true := by rfl) (he : starEach (e :: es) X.env = (false, eval e X.env) :: starEach es X.env := by rfl) (hpl : (backTo pos (starEach es X.env)).any (·.1) = false := by rfl) :
    PE X (.Call (.Name "max" p) (e :: es) [] pos) (rdE S B M W .clean (eB maxD fr)) := kB ((cr_maxD hc).or (cr_maxT hc)) (by rw [hK]; exact s_maxD) hm bt_max ha hg (by decide) (by decide) he hpl
end
@[simp] theorem maxD_i {a b : Int} : maxD [.int a, .int b] = some (.int (if b > a then b else a)) := rfl
theorem sort_t {ns : List Int} : sortD [.tup (ns.map D.int)] = some (.lst ((isort ns).map D.int)) := by
  show (match ints? (ns.map D.int) with | some ns => some (D.lst ((isort ns).map D.int)) | none => none) = _
  rw [ints?_map]
theorem sort_l {ns : List Int} : sortD [.lst (ns.map D.int)] = some (.lst ((isort ns).map D.int)) := by
  show (match ints? (ns.map D.int) with | some ns => some (D.lst ((isort ns).map D.int)) | none => none) = _
  rw [ints?_map]
theorem max_t {a : Int} {r : List Int} : maxD [.tup ((a :: r).map D.int)] = some (.int (maxL a r)) := by
  show (match ints? ((a :: r).map D.int) with | some (a :: r) => some (D.int (maxL a r)) | _ => none) = _
  rw [ints?_map]
end Mp

/-! MpJ: the random source of the laws k01 to k10, k71 to k78. -/
namespace Mp
open PySem PySem.Spec L2
open PyProof.Rows hiding St
/-! ### a def by a function on data (for the sources alone) -/
abbrev FvO (J : Type) := List D → J → Option (D × J)
def spFO {J : Type} (S : Js J) (n : Nat) (φ : FvO J) : Sp := fun vs H Q _ => ∃ F A j ds d j', Same F H ∧ (∀ b o, F b = some o → ¬ A b) ∧ S.rep j F A H ∧ (∃ o u, H sysModules = some (.frz o u)) ∧ RpL S F ds vs ∧ ds.length = n ∧ φ ds j = some (d, j') ∧
  ∀ F' A' H' v, FPost S F A H F' A' H' j' → Rp S F' d v → Q v H'
structure LJ where
  cells : List Int
  n : Nat
  great : List Int
  hc : cells ≠ []
  hl : cells.length ≤ 100
  hg : great.length ≤ 100
def goR : List Int → Int → Option (Int × List Int)
  | [], _ => none
  | r :: rs, k => if 0 < r then some (r % k, (r / k) :: rs) else goR rs k
def hash1 (c : Int) (n : Nat) : Int := (c % 4294967291 + 2246822519 * ((n : Int) + 1)) % 4294967291
def hash2 (s : Int) : Int := s * s % 4294967279 * 2654435761 % 4294967291
def hash3 (s : Int) (n : Nat) : Int := (s + 374761393 * (n : Int)) ^ (2 : Nat) % 4294967231
def hashV (c : Int) (n : Nat) : Int := hash3 (hash2 (hash1 c n)) n
def cellAt (cells : List Int) (n : Nat) : Int := cells.getD (n % cells.length) 0
theorem goR_len : ∀ {gs : List Int} {k v : Int} {gs' : List Int}, goR gs k = some (v, gs') → gs'.length ≤ gs.length
  | [], _, _, _, h => by cases h
  | r :: rs, k, v, gs', h => by
    unfold goR at h
    split at h
    · cases h; simp
    · exact Nat.le_trans (goR_len h) (by simp)
def LJ.lift (j : LJ) (k : Int) : Int × LJ := match h : goR j.great.reverse k with
  | some (v, gs) => (v, ⟨j.cells, j.n + 1, gs.reverse, j.hc, j.hl, by have := goR_len h; have := j.hg; simp at *; omega⟩)
  | none => (hashV (cellAt j.cells j.n) j.n / 8 % k, ⟨j.cells, j.n + 1, [], j.hc, j.hl, by simp⟩)
theorem goR_rng : ∀ {gs : List Int} {k v : Int} {gs' : List Int}, 0 < k → goR gs k = some (v, gs') → 0 ≤ v ∧ v < k
  | [], _, _, _, _, h => by cases h
  | r :: rs, k, v, gs', hk, h => by
    unfold goR at h
    split at h
    · cases h; exact ⟨Int.emod_nonneg _ (by omega), Int.emod_lt_of_pos _ hk⟩
    · exact goR_rng hk h
theorem LJ.lift_rng (j : LJ) {k : Int} (hk : 0 < k) : 0 ≤ (j.lift k).1 ∧ (j.lift k).1 < k := by
  unfold LJ.lift
  split
  · rename_i h; exact goR_rng hk h
  · exact ⟨Int.emod_nonneg _ (by omega), Int.emod_lt_of_pos _ hk⟩
theorem LJ.lift_n (j : LJ) (k : Int) : (j.lift k).2.n = j.n + 1 := by
  unfold LJ.lift
  split <;> rfl
def NMAX : Nat := 1000000000
def liftF : FvO LJ := fun ds j => match ds with
  | [.jar, .int k] => if decide (0 < k) && sm k && decide (j.n < NMAX) then some (.int (j.lift k).1, (j.lift k).2) else none
  | _ => none
/-- how it lies: the list at R, its cells at c, its great numbers at e -/
def repL (R : Addr) (j : LJ) (A : Addr → Prop) (H : Hp) : Prop := ∃ c e, c ≠ R ∧ e ≠ R ∧ c ≠ e ∧ H R = some (.lst [.ref c, .int (j.n : Nat), .ref e]) ∧ H c = some (.lst (j.cells.map V.int)) ∧ H e = some (.lst (j.great.map V.int)) ∧ ∀ b, A b ↔ b = R ∨ b = c ∨ b = e
def jsL (K : PySem.W.Frag) (R : Addr) : Js LJ where
  K := K
  R := .ref R
  cl := fun _ => 0
  xc := fun _ => 0
  xf := fun _ => ""
  rep := fun j _ A H => repL R j A H
  frame := fun {j F F' A H H'} h _ q => by
    obtain ⟨c, e, h1, h2, h3, h4, h5, h6, h7⟩ := h
    exact ⟨c, e, h1, h2, h3, by rw [q R ((h7 R).mpr (.inl rfl))]; exact h4, by rw [q c ((h7 c).mpr (.inr (.inl rfl)))]; exact h5, by rw [q e ((h7 e).mpr (.inr (.inr rfl)))]; exact h6, h7⟩
  dom := fun {j F A H b} h a => by
    obtain ⟨c, e, h1, h2, h3, h4, h5, h6, h7⟩ := h
    rcases (h7 b).mp a with rfl | rfl | rfl
    · rw [h4]; simp
    · rw [h5]; simp
    · rw [h6]; simp
/-- what a def that draws leaves of the heap -/
structure Out (A : Addr → Prop) (H H' : Hp) : Prop where
  keep : ∀ b o, H b = some o → ¬ A b → H' b = some o
  dm : ∀ b, H' b = none → H b = none
theorem Out.refl (A : Addr → Prop) (H : Hp) : Out A H H := ⟨fun _ _ e _ => e, fun _ e => e⟩
theorem Out.at {A : Addr → Prop} {H H' : Hp} (h : Out A H H') {a : Addr} (ha : A a) (o : HO) : Out A H (upd H' a o) := ⟨fun b u e n => by rw [upd_ne (show b ≠ a from fun z => n (by rw [z]; exact ha))]; exact h.keep b u e n, fun b e => by
  by_cases hb : b = a
  · subst hb; rw [upd_same] at e; cases e
  · rw [upd_ne hb] at e; exact h.dm b e⟩
theorem Out.new {A : Addr → Prop} {H H' : Hp} (h : Out A H H') {a : Addr} (ha : H' a = none) (o : HO) : Out A H (upd H' a o) := ⟨fun b u e n => by rw [upd_ne (ne_of_none (h.keep b u e n) ha)]; exact h.keep b u e n, fun b e => by
  by_cases hb : b = a
  · subst hb; exact h.dm b ha
  · rw [upd_ne hb] at e; exact h.dm b e⟩
theorem Out.post {J : Type} {S : Js J} {F H H' : Hp} {A : Addr → Prop} {j' : J} (h : Out A H H') (fh : Same F H) (fa : ∀ b o, F b = some o → ¬ A b) (jr : S.rep j' F A H') (sm : ∃ o u, H sysModules = some (.frz o u)) (na : ¬ A sysModules) : FPost S F A H F A H' j' :=
  ⟨Same.refl _, fun b o e => h.keep b o (fh b o e) (fa b o e), fa, jr, h.keep, fun b o e => .inl e, fun b e => .inl e, h.dm, let ⟨o, u, e⟩ := sm; ⟨o, u, h.keep _ _ e na⟩⟩

/-! ### _law_lift -/
def rMulW : R2 := rI CMulW fun i j => .int (i * j)
def rAddI : R2 := rI0 fun i j => .int (i + j)
def rMod : R2 := rI (fun _ j => 0 < j) fun i j => .int (i % j)
def rDivW : R2 := rI CDivW fun i j => .int (i / j)
def rPowI : R2 := rI CPow fun i j => .int (i ^ j.toNat)
def rLen1 (K : PySem.W.Frag) : List V → Hp → VK → Prop := fun xs H Q => ∃ x n, xs = [x] ∧ LenV K x H n ∧ Q (.int n) H
def tLiftW (K : PySem.W.Frag) : TS := tWhile (tTest (tOp (rNeD K) (tVar 4) (tLst tNil)))
  (tSeq (tAsg (tBM0 K "list" rPop (tVar 4)) (gName 5)) (tIfS (tTest (tOp (rI0 fun i j => .bl (decide (j < i))) (tVar 5) (tC (.int 0))))
    (tSeq (tDrop (tBM K "list" rAppend (tVar 4) (tCons (tOp rDivW (tVar 5) (tVar 1)) tNil))) (tRet (tOp rMod (tVar 5) (tVar 1)))) tNext))
def tLift1 (K : PySem.W.Frag) : TE := tOp rMod (tOp rAddI (tOp rMod (tOp (rIxL K) (tVar 2) (tOp rMod (tVar 3) (tCB (rLen1 K) (tCons (tVar 2) tNil)))) (tC (.int 4294967291))) (tOp rMulW (tC (.int 2246822519)) (tOp rAddI (tVar 3) (tC (.int 1))))) (tC (.int 4294967291))
def tLift2 : TE := tOp rMod (tOp rMulW (tOp rMod (tOp rMulW (tVar 6) (tVar 6)) (tC (.int 4294967279))) (tC (.int 2654435761))) (tC (.int 4294967291))
def tLift3 : TE := tOp rMod (tOp rPowI (tOp rAddI (tVar 6) (tOp rMulW (tC (.int 374761393)) (tVar 3))) (tC (.int 2))) (tC (.int 4294967231))
def tLift (K : PySem.W.Frag) : TS :=
  tSeq (tAsg (tVar 0) (gUnl K 3 (gCons (gName 2) (gCons (gName 3) (gCons (gName 4) gNil)))))
  (tSeq (tAsg (tOp rAddI (tVar 3) (tC (.int 1))) (gSub (tVar 0) (tC (.int 1)) rSetL))
  (tSeq (tLiftW K)
  (tSeq (tAsg (tLift1 K) (gName 6)) (tSeq (tAsg tLift2 (gName 6)) (tSeq (tAsg tLift3 (gName 6))
  (tRet (tOp rMod (tOp rDivW (tVar 6) (tC (.int 8))) (tVar 1))))))))
theorem pyInts (ns : List Int) : pyL (ns.map D.int) = some (ns.map PyData.int) := by
  induction ns with
  | nil => rfl
  | cons n ns ih => simp only [List.map_cons, pyL, py, ih]
theorem dpInts {K : PySem.W.Frag} {H : Hp} : ∀ (ns : List Int), DpAll K H (ns.map V.int) (ns.map PyData.int)
  | [] => .nil
  | n :: ns => .cons (.int n) (dpInts ns)
theorem shaped_ints (gs : List Int) : SeqAt.shaped (.list (gs.map PyData.int)) = true := by
  have h1 : PyData.canLayAll0 (gs.map PyData.int) = true := by
    induction gs with
    | nil => rfl
    | cons g gs ih => simp only [List.map_cons, PyData.canLayAll0, PyData.canLay0, ih]; rfl
  have h2 : PyData.depthAll (gs.map PyData.int) = 0 := by
    induction gs with
    | nil => rfl
    | cons g gs ih => simp only [List.map_cons, PyData.depthAll, PyData.depth]; rw [ih (by simpa [PyData.canLayAll0, PyData.canLay0] using h1)]; rfl
  unfold SeqAt.shaped
  simp only [PyData.canLay0, PyData.depth, h1, h2]
  decide
theorem pos0 {i j : Int} (h : 0 < j) : (fun (_ j : Int) => 0 < j) i j := h
theorem eqv_cons (g : Int) (gs : List Int) : PyData.eqv (.list ((g :: gs).map PyData.int)) (.list []) = false := by
  simp only [List.map_cons, PyData.eqv, PyData.eqvAll]
theorem hash_lt (c : Int) (n : Nat) : (0 ≤ hash1 c n ∧ hash1 c n < 4294967291) ∧ ∀ s, (0 ≤ hash2 s ∧ hash2 s < 4294967291) ∧ 0 ≤ hash3 s n := by
  refine ⟨⟨Int.emod_nonneg _ (by decide), Int.emod_lt_of_pos _ (by decide)⟩, fun s => ⟨⟨Int.emod_nonneg _ (by decide), Int.emod_lt_of_pos _ (by decide)⟩, Int.emod_nonneg _ (by decide)⟩⟩
theorem lift_pure {K : PySem.W.Frag} {R : Addr} {N : List Str} (hN : N.length = 7) {vs : List V} {H : Hp} {Q : VK} {E : XK} (h : spFO (jsL K R) 2 liftF vs H Q E) : tLift K { nx := fun _ H' => Q .non H', rt := Q } (L2.start N vs) H := by
  obtain ⟨F, A, j, ds, d, j', fh, fa, jr, sM, rp, hl, hf, q⟩ := h
  unfold liftF at hf
  split at hf
  · rename_i k
    split at hf
    · rename_i hc
      simp only [Bool.and_eq_true, decide_eq_true_eq] at hc
      obtain ⟨⟨c1, c2⟩, c3⟩ := hc
      cases hf
      obtain ⟨c, e, h1, h2, h3, h4, h5, h6, h7⟩ : repL R j A H := jr
      cases rp with
      | cons r1 rp =>
        cases rp with
        | cons r2 rp =>
          cases rp
          cases r1
          cases r2
          have st : L2.start N [.ref R, .int k] = [some (.ref R), some (.int k), none, none, none, none, none] := by
            unfold L2.start; rw [hN]; rfl
          show tLift K _ (L2.start N [.ref R, .int k]) H
          rw [st]
          have aR : A R := (h7 R).mpr (.inl rfl)
          have ac : A c := (h7 c).mpr (.inr (.inl rfl))
          have ae : A e := (h7 e).mpr (.inr (.inr rfl))
          have na : ¬ A sysModules := fun z => by
            obtain ⟨o, u, eo⟩ := sM
            rcases (h7 _).mp z with z | z | z
            · rw [z, h4] at eo; cases eo
            · rw [z, h5] at eo; cases eo
            · rw [z, h6] at eo; cases eo
          have kdiv : CDivW 0 k := ⟨c1, Nat.lt_of_lt_of_le (sm_log c2) (by decide)⟩
          have hnm : j.n < 1000000000 := c3
          refine ⟨_, rfl, R, _, rfl, .of h4, rfl, _, _, rfl, _, _, rfl, _, _, rfl, rfl, ?_⟩
          refine ⟨_, rfl, _, _, rfl, rfl, _, rfl, R, _, 1, 1, rfl, rfl, h4, rfl, ?_⟩
          have o1 := (Out.refl A H).at aR (.lst ([V.ref c, .int (j.n : Nat), .ref e].set 1 (.int ((j.n : Nat) + 1))))
          refine ⟨fun m σ H' => ∃ (gs : List Int) (r5 : Option V), σ = [some (.ref R), some (.int k), some (.ref c), some (.int (j.n : Nat)), some (.ref e), r5, none] ∧ gs.length = m ∧ gs.length ≤ 100 ∧ H' R = some (.lst [.ref c, .int ((j.n : Nat) + 1), .ref e]) ∧ H' c = some (.lst (j.cells.map V.int)) ∧ H' e = some (.lst (gs.map V.int)) ∧ Out A H H' ∧ goR gs.reverse k = goR j.great.reverse k,
            ⟨j.great.length, j.great, none, rfl, rfl, j.hg, upd_same, by rw [upd_ne h1]; exact h5, by rw [upd_ne h2]; exact h6, o1, rfl⟩, ?_⟩
          rintro m σ H' ⟨gs, r5, rfl, rfl, hg, hR, hcc, he, out, hgo⟩
          refine ⟨_, rfl, by decide, fun p hp => ?_⟩
          have ne1 : e ≠ p := ne_of_none he hp
          have ne2 : R ≠ p := ne_of_none hR hp
          have ne3 : c ≠ p := ne_of_none hcc hp
          have he' : upd H' p (.lst []) e = some (.lst (gs.map V.int)) := by rw [upd_ne ne1]; exact he
          have hR' : upd H' p (.lst []) R = _ := (upd_ne ne2).trans hR
          have hc' : upd H' p (.lst []) c = _ := (upd_ne ne3).trans hcc
          refine ⟨.list (gs.map PyData.int), .list [], .lst (.of he') (dpInts gs), .lst (.of upd_same) .nil, ?_, by decide, _, rfl, ?_⟩
          · exact shaped_ints gs
          · rcases List.eq_nil_or_concat gs with rfl | ⟨gs', z, rfl⟩
            · refine iteF ?_
              -- the cells
              have hcl : (j.n : Int) % (j.cells.length : Int) = ((j.n % j.cells.length : Nat) : Int) := by simp
              have hpos : 0 < j.cells.length := List.length_pos_iff.mpr j.hc
              have hlt : j.n % j.cells.length < j.cells.length := Nat.mod_lt _ hpos
              have hat : atI (j.cells.map V.int) ((j.n : Int) % (j.cells.length : Int)) = some (.int (cellAt j.cells j.n)) := by
                have hx : ixN (j.cells.map V.int).length ((j.n : Int) % (j.cells.length : Int)) = some (j.n % j.cells.length) := by
                  unfold ixN
                  rw [hcl, List.length_map, if_pos (Int.natCast_nonneg _), if_pos (by omega), Int.toNat_natCast]
                unfold atI
                rw [hx, Option.bind_some, List.getElem?_map]
                unfold cellAt
                rw [List.getD_eq_getElem?_getD, List.getElem?_eq_getElem hlt]
                rfl
              obtain ⟨⟨b1, b2⟩, hb⟩ := hash_lt (cellAt j.cells j.n) j.n
              obtain ⟨⟨b3, b4⟩, b5⟩ := hb (hash1 (cellAt j.cells j.n) j.n)
              have b6 := (hb (hash2 (hash1 (cellAt j.cells j.n) j.n))).2
              have bm1 : ∀ z : Int, 0 ≤ z % 4294967279 ∧ z % 4294967279 < 4294967279 := fun z => ⟨Int.emod_nonneg _ (by decide), Int.emod_lt_of_pos _ (by decide)⟩
              refine ⟨_, rfl, _, rfl, _, rfl, _, _, rfl, .inl ⟨_, .of hc', rfl⟩, _, _, rfl, rfl, by rw [List.length_map]; omega, c, _, _, .int (cellAt j.cells j.n), rfl, rfl, .of hc', by rw [List.length_map]; exact hat, _, _, rfl, rfl, (show (0:Int) < _ by decide), _, rfl, _, _, rfl, rfl, _, _, rfl, rfl, wide_mul (a := 64) (b := 64) (by omega) (by omega) (by decide) (by decide) (by decide), _, _, rfl, rfl, _, _, rfl, rfl, (show (0:Int) < _ by decide), ?_⟩
              refine ⟨_, rfl, _, rfl, _, _, rfl, rfl, wide_mul (a := 64) (b := 64) (by unfold hash1 at b1 b2; omega) (by unfold hash1 at b1 b2; omega) (by decide) (by decide) (by decide), _, _, rfl, rfl, (show (0:Int) < _ by decide), _, _, rfl, rfl, wide_mul (a := 64) (b := 64) (by have := bm1 (hash1 (cellAt j.cells j.n) j.n * hash1 (cellAt j.cells j.n) j.n); unfold hash1 at this; omega) (by omega) (by decide) (by decide) (by decide), _, _, rfl, rfl, (show (0:Int) < _ by decide), ?_⟩
              refine ⟨_, rfl, _, rfl, _, _, rfl, rfl, wide_mul (a := 64) (b := 64) (by omega) (by omega) (by decide) (by decide) (by decide), _, _, rfl, rfl, _, _, rfl, rfl, ⟨by decide, by decide, ?_⟩, _, _, rfl, rfl, (show (0:Int) < _ by decide), ?_⟩
              · unfold hash2 hash1 at b3 b4; omega
              · refine ⟨_, rfl, _, _, rfl, rfl, ⟨by decide, by decide⟩, _, rfl, _, _, rfl, rfl, c1, ?_⟩
                have hv : j.lift k = (hashV (cellAt j.cells j.n) j.n / 8 % k, ⟨j.cells, j.n + 1, [], j.hc, j.hl, by simp⟩) := by
                  unfold LJ.lift
                  split
                  · rename_i h; rw [← hgo] at h; cases h
                  · rfl
                rw [hv] at q
                refine q F A _ _ ((out.new hp _).post fh fa ⟨c, e, h1, h2, h3, hR', hc', he', h7⟩ sM na) (.int _)
            · have hev : (!PyData.eqv (.list ((gs'.concat z).map PyData.int)) (.list [])) = true := by
                cases gs' with
                | nil => rw [show ([] : List Int).concat z = z :: [] from rfl, eqv_cons]; rfl
                | cons a b => rw [show (a :: b).concat z = a :: b.concat z from rfl, eqv_cons]; rfl
              rw [hev]
              refine iteT ?_
              have o2 := out.new hp (.lst [])
              rw [List.concat_eq_append] at he' hg hgo
              have hdl : ((gs' ++ [z]).map V.int).dropLast = gs'.map V.int := by rw [List.map_append]; simp
              have hlast : ((gs' ++ [z]).map V.int)[((gs' ++ [z]).map V.int).length - 1]? = some (.int z) := by rw [List.map_append]; simp
              refine ⟨fun σ H' => ∃ (gs : List Int) (r5 : Option V), σ = [some (.ref R), some (.int k), some (.ref c), some (.int (j.n : Nat)), some (.ref e), r5, none] ∧ gs.length < (gs'.concat z).length ∧ gs.length ≤ 100 ∧ H' R = some (.lst [.ref c, .int ((j.n : Nat) + 1), .ref e]) ∧ H' c = some (.lst (j.cells.map V.int)) ∧ H' e = some (.lst (gs.map V.int)) ∧ Out A H H' ∧ goR gs.reverse k = goR j.great.reverse k,
                fun σ' H' ⟨gs, r5, a1, a2, a3, a4⟩ => ⟨gs.length, a2, gs, r5, a1, rfl, a3, a4⟩, ?_⟩
              refine ⟨_, rfl, .inl ⟨rfl, _, .of he'⟩, e, _, .int z, rfl, rfl, he', hlast, ?_⟩
              rw [hdl]
              have o3 := o2.at ae (.lst (gs'.map V.int))
              have hR3 := (upd_ne (o := HO.lst (gs'.map V.int)) (Ne.symm h2)).trans hR'
              have hc3 := (upd_ne (o := HO.lst (gs'.map V.int)) h3).trans hc'
              rw [List.reverse_append] at hgo
              have hgo' : goR (z :: gs'.reverse) k = goR j.great.reverse k := hgo
              refine ⟨_, rfl, _, _, rfl, rfl, _, rfl, ?_⟩
              by_cases hz : 0 < z
              · rw [decide_eq_true hz]
                refine iteT ?_
                refine ⟨_, rfl, .inl ⟨rfl, _, .of upd_same⟩, _, rfl, _, rfl, z, k, rfl, rfl, kdiv, e, _, _, rfl, rfl, upd_same, by rw [List.length_map]; exact Nat.lt_of_le_of_lt (Nat.le_trans (by simp at hg; omega) (by decide : 100 ≤ 1000)) (by decide), ?_⟩
                refine ⟨_, rfl, _, rfl, z, k, rfl, rfl, c1, ?_⟩
                rw [show goR (z :: gs'.reverse) k = some (z % k, (z / k) :: gs'.reverse) from if_pos hz] at hgo'
                have hv : (j.lift k).1 = z % k ∧ (j.lift k).2.cells = j.cells ∧ (j.lift k).2.n = j.n + 1 ∧ (j.lift k).2.great = gs' ++ [z / k] := by
                  unfold LJ.lift
                  split
                  · rename_i v gs h
                    rw [← hgo'] at h
                    cases h
                    exact ⟨rfl, rfl, rfl, by simp⟩
                  · rename_i h; rw [← hgo'] at h; cases h
                obtain ⟨v1, v2, v3, v4⟩ := hv
                have o4 := o3.at ae (.lst (gs'.map V.int ++ [.int (z / k)]))
                refine q F A _ _ (o4.post fh fa ⟨c, e, h1, h2, h3, ?_, ?_, ?_, h7⟩ sM na) (by rw [v1]; exact .int _)
                · rw [upd_ne (Ne.symm h2), v3]; exact hR3
                · rw [upd_ne h3, v2]; exact hc3
                · rw [upd_same, v4, List.map_append]; rfl
              · rw [decide_eq_false hz]
                refine iteF ?_
                rw [show goR (z :: gs'.reverse) k = goR gs'.reverse k from if_neg hz] at hgo'
                exact ⟨gs', _, rfl, by simp, by simp at hg; omega, hR3, hc3, upd_same, o3, hgo'⟩
    · cases hf
  · cases hf

/-! ### the source by what is asked of it alone: how often it was drawn from -/
def jsN (K : PySem.W.Frag) (cl xc : Nat → Addr) (xf : Nat → Str) (R : Addr) : Js Nat where
  K := K
  R := .ref R
  cl := cl
  xc := xc
  xf := xf
  rep := fun n _ A H => ∃ j : LJ, j.n = n ∧ repL R j A H
  frame := fun {n F F' A H H'} ⟨j, e, h⟩ s q => ⟨j, e, (jsL K R).frame (F := F) (F' := F') h s q⟩
  dom := fun {n F A H b} ⟨j, e, h⟩ a => (jsL K R).dom (F := F) h a
instance {K : PySem.W.Frag} {cl xc : Nat → Addr} {xf : Nat → Str} {R : Addr} : PureJ (jsN K cl xc xf R) := ⟨fun h => h⟩
/-- an int below k, any -/
def drawF (ds : List D) (n : Nat) (P : D → Nat → Prop) (E : Ex → Nat → Prop) : Prop := ∃ k, ds = [.jar, .int k] ∧ 0 < k ∧ sm k = true ∧ n < NMAX ∧ ∀ v, 0 ≤ v → v < k → P (.int v) (n + 1)
instance : MoF drawF := ⟨fun ⟨k, e, h1, h2, h3, h⟩ q _ => ⟨k, e, h1, h2, h3, fun v a b => q _ _ (h v a b)⟩⟩
theorem draw_spec {K : PySem.W.Frag} {cl xc : Nat → Addr} {xf : Nat → Str} {R : Addr} {vs : List V} {H : Hp} {Q : VK} {E : XK} (h : spF (jsN K cl xc xf R) 2 drawF vs H Q E) : spFO (jsL K R) 2 liftF vs H Q E := by
  obtain ⟨F, A, n, ds, P, Ep, fh, fa, ⟨j, hj, jr⟩, sM, rp, hl, ⟨k, rfl, h1, h2, h3, hp⟩, q, _⟩ := h
  subst hj
  have rp' : RpL (jsL K R) F [.jar, .int k] vs := by
    cases rp with
    | cons r1 rp =>
      cases rp with
      | cons r2 rp =>
        cases rp
        cases r1
        cases r2
        exact .cons .jar (.cons (.int _) .nil)
  refine ⟨F, A, j, _, .int (j.lift k).1, (j.lift k).2, fh, fa, jr, sM, rp', rfl, ?_, fun F' A' H' v p r => ?_⟩
  · show (if _ then _ else _) = _
    rw [if_pos (by simp [h1, h2, h3])]
  · have hv : v = .int (j.lift k).1 := int_of r
    subst hv
    exact q _ _ F' A' H' _ (hp _ (j.lift_rng h1).1 (j.lift_rng h1).2) ⟨p.sub, p.fh, p.fa, ⟨_, j.lift_n k, p.jr⟩, p.keep, p.ff, p.af, p.dm, p.sm⟩ (.int _)
end Mp

/-! MpO: how the random source of k01 to k10, k71 to k78 is opened. -/
namespace Mp
open PySem PySem.Spec L2
open PyProof.Rows hiding St
/-- a list comprehension over ints -/
theorem lcI {K : PySem.W.Frag} {a : Addr} {xs : List Int} {H1 : Hp} {Dd : Addr} {i : Nat} {σ : St} {tt : TT} {te : TE} {Q : Hp → Prop} (f : Int → Int) (t : Int → Bool) (hS : SqL K H1 a (xs.map V.int)) (hD : H1 Dd = none) (hlen : xs.length ≤ 1000)
    (htt : ∀ x H (Q : Bool → Hp → Prop), Q (t x) H → tt ((wipe σ [i]).set i (some (.int x))) H Q) (hte : ∀ x H (Q : VK), Q (.int (f x)) H → te ((wipe σ [i]).set i (some (.int x))) H Q) (hd : Q (upd H1 Dd (.lst (((xs.filter t).map f).map V.int)))) :
    ∃ W : Nat → Nat → Hp → Prop, (∃ m, W 0 m (upd H1 Dd (.lst []))) ∧ ∀ k m H, W k m H →
      ((Itl K a).stop k H ∧ Q H) ∨ ((Itl K a).go k H ∧ ∃ Nx : Hp → Prop, (∀ H', Nx H' → ∃ m', m' < m ∧ W (k + 1) m' H') ∧ ∀ x H', (Itl K a).yld k H x H' → gName i x (wipe σ [i]) H' fun σ2 H2 => wipe σ2 [i] = wipe σ [i] ∧ tt σ2 H2 fun b H3 =>
        if b = true then te σ2 H3 fun y H4 => ∃ acc, H4 Dd = some (.lst acc) ∧ acc.length < sizeLine ∧ Nx (upd H4 Dd (.lst (acc ++ [y]))) else Nx H3) := by
  have uu : ∀ (o o' : HO), upd (upd H1 Dd o) Dd o' = upd H1 Dd o' := fun o o' => by
    funext b
    by_cases hb : b = Dd
    · subst hb; rw [upd_same, upd_same]
    · rw [upd_ne hb, upd_ne hb, upd_ne hb]
  refine lc_it (walk_list (K := K) (a := a) (xs := xs.map V.int)) (fun k H => H = upd H1 Dd (.lst ((((xs.take k).filter t).map f).map V.int))) rfl (fun k H _ e => ?_) (fun k x H H' hk e y => ?_) (fun H e => ?_)
  · rw [e]
    exact (same_new hD).seq hS
  · obtain ⟨rfl, hx⟩ := y
    subst e
    rw [List.getElem?_map, Option.map_eq_some_iff] at hx
    obtain ⟨z, hz, rfl⟩ := hx
    refine ⟨?_, htt z _ _ ?_⟩
    · show ((wipe σ []).set i none |>.set i (some (V.int z)) |>.set i none) = (wipe σ []).set i none
      rw [List.set_set, List.set_set]
    · have htk : xs.take (k + 1) = xs.take k ++ [z] := by
        rw [List.take_add_one, hz]; rfl
      cases ht : t z with
      | true =>
        refine iteT ?_
        refine hte z _ _ ⟨_, upd_same, ?_, ?_⟩
        · rw [List.length_map, List.length_map]
          refine Nat.lt_of_le_of_lt (Nat.le_trans (List.length_filter_le _ _) (Nat.le_trans (by rw [List.length_take]; exact Nat.min_le_right _ _) hlen)) (by decide)
        · rw [uu, htk, List.filter_append, List.map_append, List.map_append]
          simp [ht]
      | false =>
        refine iteF ?_
        rw [htk, List.filter_append]
        simp [ht]
  · rw [List.length_map, List.take_length] at e
    rw [e]; exact hd
def rAbs1 : List V → Hp → VK → Prop := fun xs H Q => ∃ i, xs = [.int i] ∧ Q (.int (if i < 0 then -i else i)) H
def rGe : R2 := rI0 fun i j => .bl (decide (j ≤ i))
def rIntB : List V → Hp → VK → Prop := fun xs H Q => (∃ i, xs = [.int i] ∧ Q (.int i) H) ∨ ∃ k, xs = [.bl k] ∧ Q (.int (if k then 1 else 0)) H
def tOpened (K : PySem.W.Frag) : TS :=
  tSeq (tAsg (tLc (iList K (L2.tSl (rSlL K) (tVar 0) tNoPart (tPart (tC (.int 60))))) (gName 2) tYes (tCB rAbs1 (tCons (tVar 2) tNil)) [2]) (gName 1))
    (tRet (tLst (tCons (tOp rCat (tVar 1) (tOp rRep (tLst (tCons (tC (.int 23)) tNil)) (tCB rIntB (tCons (tOp (rEqD K) (tVar 1) (tLst tNil)) tNil))))
      (tCons (tC (.int 0)) (tCons (tLc (iList K (tVar 1)) (gName 2) (tTest (tOp rGe (tVar 2) (tOp rPowI (tC (.int 10)) (tC (.int 18))))) (tVar 2) [2]) tNil)))))
/-- the source as it is opened -/
def absI (i : Int) : Int := if i < 0 then -i else i
def cells0 (ns : List Int) : List Int := (ns.take 60).map absI
def openJ (ns : List Int) : LJ where
  cells := if cells0 ns = [] then [23] else cells0 ns
  n := 0
  great := (cells0 ns).filter fun c => decide (10 ^ 18 ≤ c)
  hc := by split <;> simp_all
  hl := by
    split
    · decide
    · unfold cells0; rw [List.length_map, List.length_take]; omega
  hg := Nat.le_trans (List.length_filter_le _ _) (by unfold cells0; rw [List.length_map, List.length_take]; omega)
def spOpen (K : PySem.W.Frag) : Sp := fun vs H Q _ => ∃ a ns, vs = [.ref a] ∧ ns.length ≤ 63 ∧ SqL K H a (ns.map V.int) ∧ ∀ (H' : Hp) (R : Addr) (A : Addr → Prop), Same H H' → (∀ b, A b → H b = none) → repL R (openJ ns) A H' → Q (.ref R) H'
theorem opened_pure {K : PySem.W.Frag} {N : List Str} (hN : N.length = 3) {vs : List V} {H : Hp} {Q : VK} {E : XK} (h : spOpen K vs H Q E) : tOpened K { nx := fun _ H' => Q .non H', rt := Q } (L2.start N vs) H := by
  obtain ⟨a, ns, rfl, hl, hS, q⟩ := h
  have st : L2.start N [.ref a] = [some (.ref a), none, none] := by unfold L2.start; rw [hN]; rfl
  rw [st]
  refine ⟨.ref a, rfl, ?_⟩
  refine ⟨60, rfl, a, _, rfl, hS, fun p hp => ?_⟩
  have hcut : cutV (ns.map V.int) none (some 60) = (ns.take 60).map V.int := by
    unfold cutV
    have e1 : HT.sIx (ns.map V.int).length 0 none = 0 := rfl
    have e2 : HT.sIx (ns.map V.int).length (ns.map V.int).length (some 60) = min 60 (ns.map V.int).length := rfl
    rw [e1, e2, List.drop_zero, Nat.sub_zero, List.map_take]
    by_cases h : 60 ≤ (ns.map V.int).length
    · rw [Nat.min_eq_left h]
    · rw [Nat.min_eq_right (by omega), List.take_length, List.take_of_length_le (by omega)]
  rw [hcut]
  have s1 : Same H (upd H p (.lst ((ns.take 60).map V.int))) := same_new hp
  refine ⟨p, rfl, ⟨_, .of upd_same⟩, fun c hc => ?_⟩
  refine lcI (σ := [some (.ref a), none, none]) (i := 2) absI (fun _ => true) (.of upd_same) hc (by rw [List.length_take]; omega) (fun x H Q h => h) (fun x H Q h => ⟨_, rfl, x, rfl, h⟩) ?_
  have hf : ((ns.take 60).filter fun _ => true) = ns.take 60 := List.filter_eq_self.mpr fun _ _ => rfl
  rw [hf]
  show tRet (tLst (tCons (tOp rCat (tVar 1) (tOp rRep (tLst (tCons (tC (.int 23)) tNil)) (tCB rIntB (tCons (tOp (rEqD K) (tVar 1) (tLst tNil)) tNil))))
      (tCons (tC (.int 0)) (tCons (tLc (iList K (tVar 1)) (gName 2) (tTest (tOp rGe (tVar 2) (tOp rPowI (tC (.int 10)) (tC (.int 18))))) (tVar 2) [2]) tNil)))) { nx := fun x H' => Q V.non H', rt := Q } [some (.ref a), some (.ref c), none] (upd (upd H p (.lst ((ns.take 60).map V.int))) c (.lst ((cells0 ns).map V.int)))
  have lc : (cells0 ns).length ≤ 60 := by unfold cells0; rw [List.length_map, List.length_take]; omega
  have s2 := s1.trans (same_new (o := .lst ((cells0 ns).map V.int)) hc)
  have hcn : H c = none := s1.free hc
  generalize hH2 : upd (upd H p (.lst ((ns.take 60).map V.int))) c (.lst ((cells0 ns).map V.int)) = H2 at *
  have hc2 : H2 c = some (.lst ((cells0 ns).map V.int)) := by rw [← hH2]; exact upd_same
  clear hH2 hc
  refine ⟨_, rfl, by decide, fun p1 n1 => ?_⟩
  have s3 := s2.trans (same_new (o := .lst [.int 23]) n1)
  have hc3 : upd H2 p1 (.lst [.int 23]) c = _ := (upd_ne (ne_of_none hc2 n1)).trans hc2
  refine ⟨_, rfl, by decide, fun p2 n2 => ?_⟩
  have hc4 : upd (upd H2 p1 (.lst [.int 23])) p2 (.lst []) c = _ := (upd_ne (ne_of_none hc3 n2)).trans hc3
  have h14 : upd (upd H2 p1 (.lst [.int 23])) p2 (.lst []) p1 = some (.lst [.int 23]) := (upd_ne (ne_of_none upd_same n2)).trans upd_same
  have s4 := s3.trans (same_new (o := .lst []) n2)
  generalize hH4 : upd (upd H2 p1 (.lst [.int 23])) p2 (.lst []) = H4 at *
  have hp2 : H4 p2 = some (.lst []) := by rw [← hH4]; exact upd_same
  clear hH4 n1 n2 hc3 s3
  have hev : PyData.eqv (.list ((cells0 ns).map PyData.int)) (.list []) = decide (cells0 ns = []) := by
    cases h : cells0 ns with
    | nil => rfl
    | cons x r => rw [eqv_cons]; simp
  refine ⟨.list ((cells0 ns).map PyData.int), .list [], .lst (.of hc4) (dpInts _), .lst (.of hp2) .nil, shaped_ints _, by decide, .inr ⟨_, rfl, ?_⟩⟩
  rw [hev]
  refine ⟨p1, _, _, rfl, rfl, h14, ?_, ?_, ?_, fun p3 n3 => ?_⟩
  · split <;> decide
  · split <;> decide
  · split <;> decide
  have s5 := s4.trans (same_new (o := HO.lst (List.replicate (if decide (cells0 ns = []) = true then (1 : Int) else 0).toNat [V.int 23]).flatten) n3)
  have hc5 : upd H4 p3 (.lst (List.replicate (if decide (cells0 ns = []) = true then (1 : Int) else 0).toNat [V.int 23]).flatten) c = _ := (upd_ne (ne_of_none hc4 n3)).trans hc4
  refine ⟨c, p3, _, _, rfl, rfl, hc5, upd_same, ?_, fun p4 n4 => ?_⟩
  · rw [List.length_map]
    have : (List.replicate (if decide (cells0 ns = []) = true then (1 : Int) else 0).toNat [V.int 23]).flatten.length ≤ 1 := by split <;> decide
    exact Nat.le_trans (show _ ≤ 1000 by omega) (by decide)
  have hcells : (cells0 ns).map V.int ++ (List.replicate (if decide (cells0 ns = []) = true then (1 : Int) else 0).toNat [V.int 23]).flatten = (openJ ns).cells.map V.int := by
    unfold openJ
    by_cases h : cells0 ns = []
    · simp [h]
    · simp [h]
  rw [hcells]
  have n40 := s5.free n4
  have s6 := s5.trans (same_new (o := .lst ((openJ ns).cells.map V.int)) n4)
  generalize hH5 : upd H4 p3 (.lst (List.replicate (if decide (cells0 ns = []) = true then (1 : Int) else 0).toNat [V.int 23]).flatten) = H5 at *
  have hc6 : upd H5 p4 (.lst ((openJ ns).cells.map V.int)) c = _ := (upd_ne (ne_of_none hc5 n4)).trans hc5
  have h46 : upd H5 p4 (.lst ((openJ ns).cells.map V.int)) p4 = some (.lst ((openJ ns).cells.map V.int)) := upd_same
  generalize hH6 : upd H5 p4 (.lst ((openJ ns).cells.map V.int)) = H6 at *
  clear hH6 hH5
  refine ⟨_, rfl, c, rfl, ⟨_, .of hc6⟩, fun e ne => ?_⟩
  refine lcI (σ := [some (.ref a), some (.ref c), none]) (i := 2) id (fun x => decide (10 ^ 18 ≤ x)) (.of hc6) ne (by omega) (fun x H Q h => ⟨_, rfl, _, _, rfl, rfl, ⟨by decide, by decide, by decide⟩, _, _, rfl, rfl, _, rfl, h⟩) (fun x H Q h => ⟨_, rfl, h⟩) ?_
  rw [List.map_id]
  refine ⟨(show 3 ≤ sizeLine by decide), fun R nR => ?_⟩
  have ne0 := s6.free ne
  have s7 := s6.trans (same_new (o := .lst (((cells0 ns).filter fun x => decide (10 ^ 18 ≤ x)).map V.int)) ne)
  have nR0 := s7.free nR
  have r4 : p4 ≠ R := ne_of_none ((upd_ne (ne_of_none h46 ne)).trans h46) nR
  have re : e ≠ R := ne_of_none upd_same nR
  refine q _ R (fun b => b = R ∨ b = p4 ∨ b = e) (s7.trans (same_new nR)) (fun b hb => ?_) ⟨p4, e, r4, re, ne_of_none h46 ne, upd_same, ?_, ?_, fun b => Iff.rfl⟩
  · rcases hb with rfl | rfl | rfl
    · exact nR0
    · exact n40
    · exact ne0
  · rw [upd_ne r4, upd_ne (ne_of_none h46 ne)]; exact h46
  · rw [upd_ne re, upd_same]; rfl
end Mp

/-! NL: a law that opens its source first. -/
namespace Mp
open PySem PySem.Spec L2
open PyProof.Rows hiding St
def blkB (N : List Str) (sc scope : Scope) (own : List (Str × Nat)) : Bool :=
  decide (scope.kind = .function) && decide (∀ y ∈ scope.names, scope.names.lookup y.1 = some y.2) && decide (∀ p ∈ own, N[p.2]? = some p.1) &&
    decide (∀ y ∈ scope.names, y.2 = .free → sc.names.lookup y.1 = some .cell ∨ sc.names.lookup y.1 = some .free) && decide (∀ y ∈ scope.names, y.2 = .local ∨ y.2 = .cell → y.1 ∈ own.map (·.1) ∨ y.1 ∉ N)
theorem blk_of {N' : List Str} {sc' scope : Scope} {own : List (Str × Nat)} (N : List Str) (sc : Scope) (hN : N' = N) (hs : sc' = sc) (h : blkB N sc scope own = true) : BlkOk N' sc' scope own := by
  subst hN hs
  unfold blkB at h
  simp only [Bool.and_eq_true, decide_eq_true_eq] at h
  obtain ⟨⟨⟨⟨h1, h2⟩, h3⟩, h4⟩, h5⟩ := h
  exact ⟨h1, h2, h3, h4, h5⟩
def m0 (k : Nat) : Sd := none :: some .jar :: List.replicate (k - 2) none
/-- the promise of a def that opens a source -/
def spOpenG {J : Type} (Sf : Addr → Js J) (Good : J → Prop) (K : PySem.W.Frag) : Sp := fun vs H Q _ => ∃ (a : Addr) (ns : List Int), vs = [.ref a] ∧ ns.length ≤ 63 ∧ SqL K H a (ns.map V.int) ∧ ∀ (H' : Hp) (R : Addr) (A : Addr → Prop) (j : J), Same H H' → (∀ b, A b → H b = none) → Good j → (Sf R).rep j (fun _ => none) A H' → Q (.ref R) H'
theorem law_pureG {J : Type} {Sf : Addr → Js J} {Good : J → Prop} {K : PySem.W.Frag} {N : List Str} (hR : ∀ R, (Sf R).R = .ref R) (hN : 2 ≤ N.length) {M : Nat → Bool} (hM : ∀ i, i < 2 → M i = false) {f : Sv J} (hlaw : ∀ j, Good j → f (m0 N.length) j (fun l _ _ => l = .ret (.bl true)) xNo) {vs : List V} {H : Hp} {Q : VK} {E : XK} (h : spLaw K vs H Q E) :
    tSeq (tAsg (tCall (spOpenG Sf Good K) [] E0 (tCons (tVar 0) tNil)) (gName 1)) (fun D σ H => ∃ RB : Addr × Bs, rdS (Sf RB.1) RB.2 M W0 f D σ H) { nx := fun _ H' => Q .non H', rt := Q } (L2.start N vs) H := by
  obtain ⟨a, ns, rfl, hl, hb, hS, sM, q⟩ := h
  have st : L2.start N [.ref a] = some (.ref a) :: none :: List.replicate (N.length - 2) none := by
    unfold L2.start
    obtain ⟨k, hk⟩ : ∃ k, N.length = k + 2 := ⟨N.length - 2, by omega⟩
    rw [hk]
    rfl
  rw [st]
  refine ⟨_, rfl, a, ns, rfl, hl, hS, fun H' R A j sm fr gd rp => ?_⟩
  have hf := hlaw j gd
  refine ⟨(R, ⟨fun _ => none, H', A⟩), ⟨fun _ => none, fun _ => none, A⟩, m0 N.length, j, _, _, ⟨⟨fun _ _ e => e, fun _ _ e => (nomatch e), fun _ _ e => (nomatch e), rp, fun _ _ e => e, fun _ _ e => (nomatch e), fun _ e => .inl e, fun _ _ e _ => e, fun _ e => e, let ⟨o, u, e⟩ := sM; ⟨o, u, sm _ _ e⟩⟩, ?_⟩, hf, fun fl m' j' hfl => ?_, XOut.no⟩
  · have lenE : ((some (V.ref a) :: none :: List.replicate (N.length - 2) none : St).set 1 (some (.ref R))).length = (m0 N.length).length := by simp [m0]
    have only : ∀ i d, (m0 N.length)[i]? = some (some d) → i = 1 ∧ d = .jar := fun i d e => by
      unfold m0 at e
      match i, e with
      | 0, e => simp at e
      | 1, e => simp at e; exact ⟨rfl, e.symm⟩
      | i + 2, e =>
        simp only [List.getElem?_cons_succ, List.getElem?_replicate] at e
        split at e <;> cases e
    refine ⟨lenE, fun i d e _ => ?_, fun i d e m => ?_, fun i k b d d' e _ m _ _ _ => ?_⟩
    · obtain ⟨rfl, rfl⟩ := only i d e
      exact ⟨.ref R, rfl, by rw [← hR R]; exact .jar⟩
    · obtain ⟨rfl, rfl⟩ := only i d e
      rw [hM 1 (by decide)] at m; cases m
    · obtain ⟨rfl, rfl⟩ := only i d e
      rw [hM 1 (by decide)] at m; cases m
  · subst hfl
    intro g' H2 v ok rv
    rw [bl_of rv]
    exact q H2
/-- a law's start: the source drawn from a few times at most -/
def Few (n : Nat) : Prop := n ≤ 1000000
theorem open_lift {K : PySem.W.Frag} {cl xc : Nat → Addr} {xf : Nat → Str} {vs : List V} {H : Hp} {Q : VK} {E : XK} (h : spOpenG (jsN K cl xc xf) Few K vs H Q E) : spOpen K vs H Q E := by
  obtain ⟨a, ns, e, l, s, q⟩ := h
  exact ⟨a, ns, e, l, s, fun H' R A sm fr rp => q H' R A 0 sm fr (Nat.zero_le _) ⟨_, rfl, rp⟩⟩
end Mp

/-! MpD: the random source of the laws k37 to k47. -/
namespace Mp
open PySem PySem.Spec L2
open PyProof.Rows hiding St
structure DJ where
  great : List Int
  small : Int
  n : Nat
  hg : great.length ≤ 100
  h0 : 0 ≤ small
  h1 : small < 1000000000039
/-- without the zeros at its end -/
def strip : List Int → List Int
  | [] => []
  | x :: r => match strip r with
    | [] => if x = 0 then [] else [x]
    | y :: s => x :: y :: s
theorem strip_len : ∀ (l : List Int), (strip l).length ≤ l.length
  | [] => Nat.le_refl _
  | x :: r => by
    have := strip_len r
    unfold strip
    split
    · split <;> simp
    · rename_i h; rw [h] at this; simp at this ⊢; omega
theorem strip_snoc0 : ∀ (l : List Int), strip (l ++ [0]) = strip l
  | [] => rfl
  | x :: r => by
    show strip (x :: (r ++ [0])) = strip (x :: r)
    unfold strip
    rw [strip_snoc0 r]
theorem strip_snoc : ∀ (l : List Int) {z : Int}, z ≠ 0 → strip (l ++ [z]) = l ++ [z]
  | [], z, h => by unfold strip; simp [strip, h]
  | x :: r, z, h => by
    show strip (x :: (r ++ [z])) = _
    unfold strip
    rw [strip_snoc r h]
    cases hr : r ++ [z] with
    | nil => simp at hr
    | cons y s => simp [hr]
def rnd1 (s : Int) (n : Nat) : Int := (s * 92821 + ((n : Int) + 1) * 7919 + 17) % 1000000000039
theorem rnd1_rng (s : Int) (n : Nat) : 0 ≤ rnd1 s n ∧ rnd1 s n < 1000000000039 := ⟨Int.emod_nonneg _ (by decide), Int.emod_lt_of_pos _ (by decide)⟩
def DJ.roll (j : DJ) (k : Int) : Int × DJ := match h : (strip j.great).getLast? with
  | some z => (z % k, ⟨(strip j.great).dropLast ++ [z / k], j.small, j.n, by
      have := strip_len j.great; have := j.hg
      have h2 : (strip j.great) ≠ [] := fun q => by rw [q] at h; cases h
      have := List.length_pos_iff.mpr h2
      simp; omega, j.h0, j.h1⟩)
  | none => ((rnd1 j.small j.n * rnd1 j.small j.n + ((j.n : Int) + 1)) % 999999999989 / 5 % k, ⟨[], rnd1 j.small j.n, j.n + 1, by simp, (rnd1_rng _ _).1, (rnd1_rng _ _).2⟩)
theorem DJ.roll_rng (j : DJ) {k : Int} (hk : 0 < k) : 0 ≤ (j.roll k).1 ∧ (j.roll k).1 < k := by
  unfold DJ.roll
  split
  · exact ⟨Int.emod_nonneg _ (by omega), Int.emod_lt_of_pos _ hk⟩
  · exact ⟨Int.emod_nonneg _ (by omega), Int.emod_lt_of_pos _ hk⟩
theorem DJ.roll_n (j : DJ) (k : Int) : (j.roll k).2.n ≤ j.n + 1 := by
  unfold DJ.roll
  split
  · exact Nat.le_succ _
  · exact Nat.le_refl _
def rollF : FvO DJ := fun ds j => match ds with
  | [.jar, .int k] => if decide (0 < k) && sm k && decide (j.n < NMAX) then some (.int (j.roll k).1, (j.roll k).2) else none
  | _ => none
def repD (R : Addr) (j : DJ) (A : Addr → Prop) (H : Hp) : Prop := ∃ e, e ≠ R ∧ H R = some (.lst [.ref e, .int j.small, .int (j.n : Nat)]) ∧ H e = some (.lst (j.great.map V.int)) ∧ ∀ b, A b ↔ b = R ∨ b = e
def jsD (K : PySem.W.Frag) (R : Addr) : Js DJ where
  K := K
  R := .ref R
  cl := fun _ => 0
  xc := fun _ => 0
  xf := fun _ => ""
  rep := fun j _ A H => repD R j A H
  frame := fun {j F F' A H H'} h _ q => by
    obtain ⟨e, h1, h4, h6, h7⟩ := h
    exact ⟨e, h1, by rw [q R ((h7 R).mpr (.inl rfl))]; exact h4, by rw [q e ((h7 e).mpr (.inr rfl))]; exact h6, h7⟩
  dom := fun {j F A H b} h a => by
    obtain ⟨e, h1, h4, h6, h7⟩ := h
    rcases (h7 b).mp a with rfl | rfl
    · rw [h4]; simp
    · rw [h6]; simp
theorem Out.postD {K : PySem.W.Frag} {R e' : Addr} {F H H' : Hp} {A : Addr → Prop} {j' : DJ} (h : Out A H H') (fh : Same F H) (fa : ∀ b o, F b = some o → ¬ A b) (aR : A R) (he : A e' ∨ H e' = none) (ne : e' ≠ R)
    (h1 : H' R = some (.lst [.ref e', .int j'.small, .int (j'.n : Nat)])) (h2 : H' e' = some (.lst (j'.great.map V.int))) (sm : ∃ o u, H sysModules = some (.frz o u)) (na : ¬ A sysModules) : FPost (jsD K R) F A H F (fun b => b = R ∨ b = e') H' j' := by
  refine ⟨Same.refl _, fun b o e => h.keep b o (fh b o e) (fa b o e), fun b o e z => ?_, ⟨e', ne, h1, h2, fun b => Iff.rfl⟩, h.keep, fun b o e => .inl e, fun b z => ?_, h.dm, let ⟨o, u, e⟩ := sm; ⟨o, u, h.keep _ _ e na⟩⟩
  · rcases z with z | z
    · exact fa b o e (by rw [z]; exact aR)
    · subst z
      rcases he with he | he
      · exact fa b o e he
      · rw [fh b o e] at he
        cases he
  · rcases z with z | z
    · exact .inl (by rw [z]; exact aR)
    · rw [z]; exact he
def tNeg1 : TE := tUn (rU fun i => .int (-i)) (tC (.int 1))
def tD0 (K : PySem.W.Frag) : TE := tOp (rIxL K) (tVar 0) (tC (.int 0))
def tRoll (K : PySem.W.Frag) : TS :=
  tSeq (tWhile (tAnd (tTest (tOp (rNeD K) (tD0 K) (tLst tNil))) (tTest (tOp rEq (tOp (rIxL K) (tD0 K) tNeg1) (tC (.int 0)))))
    (tAsg (L2.tSl (rSlL K) (tD0 K) tNoPart (tPart tNeg1)) (gSub (tVar 0) (tC (.int 0)) rSetL)))
  (tSeq (tIfS (tTest (tOp (rNeD K) (tD0 K) (tLst tNil)))
    (tSeq (tAsg (tOp (rIxL K) (tD0 K) tNeg1) (gName 2))
      (tSeq (tAsg (tOp rCat (L2.tSl (rSlL K) (tD0 K) tNoPart (tPart tNeg1)) (tLst (tCons (tOp rDivW (tVar 2) (tVar 1)) tNil))) (gSub (tVar 0) (tC (.int 0)) rSetL))
        (tRet (tOp rMod (tVar 2) (tVar 1))))) tNext)
  (tSeq (tAsg (tOp rAddI (tOp (rIxL K) (tVar 0) (tC (.int 2))) (tC (.int 1))) (gSub (tVar 0) (tC (.int 2)) rSetL))
  (tSeq (tAsg (tOp rMod (tOp rAddI (tOp rAddI (tOp rMulW (tOp (rIxL K) (tVar 0) (tC (.int 1))) (tC (.int 92821))) (tOp rMulW (tOp (rIxL K) (tVar 0) (tC (.int 2))) (tC (.int 7919)))) (tC (.int 17))) (tC (.int 1000000000039))) (gSub (tVar 0) (tC (.int 1)) rSetL))
  (tRet (tOp rMod (tOp rDivW (tOp rMod (tOp rAddI (tOp rMulW (tOp (rIxL K) (tVar 0) (tC (.int 1))) (tOp (rIxL K) (tVar 0) (tC (.int 1)))) (tOp (rIxL K) (tVar 0) (tC (.int 2)))) (tC (.int 999999999989))) (tC (.int 5))) (tVar 1))))))
theorem lastI {gs : List Int} {z : Int} : atI ((gs ++ [z]).map V.int) (-1) = some (.int z) := by
  have hx : ixN ((gs ++ [z]).map V.int).length (-1) = some gs.length := by
    unfold ixN
    rw [if_neg (by decide), if_pos (by simp; omega)]
    simp
    omega
  unfold atI
  rw [hx, Option.bind_some]
  simp
theorem cut_last {gs : List Int} {z : Int} : cutV ((gs ++ [z]).map V.int) none (some (-1)) = gs.map V.int := by
  unfold cutV
  have e1 : HT.sIx ((gs ++ [z]).map V.int).length 0 none = 0 := rfl
  have e2 : HT.sIx ((gs ++ [z]).map V.int).length ((gs ++ [z]).map V.int).length (some (-1)) = gs.length := by
    unfold HT.sIx
    simp
    omega
  rw [e1, e2, List.drop_zero, Nat.sub_zero, List.map_append]
  simp
theorem roll_pure {K : PySem.W.Frag} {R : Addr} {N : List Str} (hN : N.length = 3) {vs : List V} {H : Hp} {Q : VK} {E : XK} (h : spFO (jsD K R) 2 rollF vs H Q E) : tRoll K { nx := fun _ H' => Q .non H', rt := Q } (L2.start N vs) H := by
  obtain ⟨F, A, j, ds, d, j', fh, fa, jr, sM, rp, hl, hf, q⟩ := h
  unfold rollF at hf
  split at hf
  · rename_i k
    split at hf
    · rename_i hc
      simp only [Bool.and_eq_true, decide_eq_true_eq] at hc
      obtain ⟨⟨c1, c2⟩, c3⟩ := hc
      cases hf
      obtain ⟨e, h1, h4, h6, h7⟩ : repD R j A H := jr
      cases rp with
      | cons r1 rp =>
        cases rp with
        | cons r2 rp =>
          cases rp
          cases r1
          cases r2
          have st : L2.start N [.ref R, .int k] = [some (.ref R), some (.int k), none] := by
            unfold L2.start; rw [hN]; rfl
          show tRoll K _ (L2.start N [.ref R, .int k]) H
          rw [st]
          have aR : A R := (h7 R).mpr (.inl rfl)
          have ae : A e := (h7 e).mpr (.inr rfl)
          have na : ¬ A sysModules := fun z => by
            obtain ⟨o, u, eo⟩ := sM
            rcases (h7 _).mp z with z | z
            · rw [z, h4] at eo; cases eo
            · rw [z, h6] at eo; cases eo
          have kdiv : ∀ i, CDivW i k := fun _ => ⟨c1, Nat.lt_of_lt_of_le (sm_log c2) (by decide)⟩
          have hnm : j.n < 1000000000 := c3
          have j0 := j.h0
          have j1 := j.h1
          -- the loop
          refine ⟨fun m σ H' => ∃ (gs : List Int) (e' : Addr), σ = [some (.ref R), some (.int k), none] ∧ gs.length = m ∧ gs.length ≤ 100 ∧ e' ≠ R ∧ (A e' ∨ H e' = none) ∧ H' R = some (.lst [.ref e', .int j.small, .int (j.n : Nat)]) ∧ H' e' = some (.lst (gs.map V.int)) ∧ Out A H H' ∧ strip gs = strip j.great,
            ⟨j.great.length, j.great, e, rfl, rfl, j.hg, h1, .inl ae, h4, h6, Out.refl A H, rfl⟩, ?_⟩
          rintro m σ H' ⟨gs, e', rfl, rfl, hg, hne, hae, hR, he, out, hst⟩
          refine ⟨_, rfl, R, _, 0, .ref e', rfl, rfl, .of hR, rfl, by decide, fun p hp => ?_⟩
          have ne1 : e' ≠ p := ne_of_none he hp
          have ne2 : R ≠ p := ne_of_none hR hp
          have he' : upd H' p (.lst []) e' = some (.lst (gs.map V.int)) := by rw [upd_ne ne1]; exact he
          have hR' : upd H' p (.lst []) R = _ := (upd_ne ne2).trans hR
          have o2 := out.new hp (.lst [])
          generalize hH2 : upd H' p (.lst []) = H2 at *
          have hpp : H2 p = some (.lst []) := by rw [← hH2]; exact upd_same
          clear hH2 hp hR he out
          refine ⟨.list (gs.map PyData.int), .list [], .lst (.of he') (dpInts gs), .lst (.of hpp) .nil, shaped_ints gs, by decide, _, rfl, ?_⟩
          have go : ∀ (gs' : List Int) (z : Int) (H3 : Hp), gs = gs' ++ [z] → H3 R = some (.lst [.ref e', .int j.small, .int (j.n : Nat)]) → H3 e' = some (.lst (gs.map V.int)) → Out A H H3 → z ≠ 0 →
              tSeq (tIfS (tTest (tOp (rNeD K) (tD0 K) (tLst tNil)))
                (tSeq (tAsg (tOp (rIxL K) (tD0 K) tNeg1) (gName 2))
                  (tSeq (tAsg (tOp rCat (L2.tSl (rSlL K) (tD0 K) tNoPart (tPart tNeg1)) (tLst (tCons (tOp rDivW (tVar 2) (tVar 1)) tNil))) (gSub (tVar 0) (tC (.int 0)) rSetL))
                    (tRet (tOp rMod (tVar 2) (tVar 1))))) tNext)
              (tSeq (tAsg (tOp rAddI (tOp (rIxL K) (tVar 0) (tC (.int 2))) (tC (.int 1))) (gSub (tVar 0) (tC (.int 2)) rSetL))
              (tSeq (tAsg (tOp rMod (tOp rAddI (tOp rAddI (tOp rMulW (tOp (rIxL K) (tVar 0) (tC (.int 1))) (tC (.int 92821))) (tOp rMulW (tOp (rIxL K) (tVar 0) (tC (.int 2))) (tC (.int 7919)))) (tC (.int 17))) (tC (.int 1000000000039))) (gSub (tVar 0) (tC (.int 1)) rSetL))
              (tRet (tOp rMod (tOp rDivW (tOp rMod (tOp rAddI (tOp rMulW (tOp (rIxL K) (tVar 0) (tC (.int 1))) (tOp (rIxL K) (tVar 0) (tC (.int 1)))) (tOp (rIxL K) (tVar 0) (tC (.int 2)))) (tC (.int 999999999989))) (tC (.int 5))) (tVar 1))))) { nx := fun _ H' => Q .non H', rt := Q } [some (.ref R), some (.int k), none] H3 := by
            intro gs' z H3 egs hR3 he3 out3 hz
            refine ⟨_, rfl, R, _, 0, .ref e', rfl, rfl, .of hR3, rfl, by decide, fun p3 hp3 => ?_⟩
            have he4 : upd H3 p3 (.lst []) e' = some (.lst (gs.map V.int)) := by rw [upd_ne (ne_of_none he3 hp3)]; exact he3
            have hR4 : upd H3 p3 (.lst []) R = _ := (upd_ne (ne_of_none hR3 hp3)).trans hR3
            have o4 := out3.new hp3 (.lst [])
            generalize hH4 : upd H3 p3 (.lst []) = H4 at *
            have hpp3 : H4 p3 = some (.lst []) := by rw [← hH4]; exact upd_same
            clear hH4
            refine ⟨.list (gs.map PyData.int), .list [], .lst (.of he4) (dpInts gs), .lst (.of hpp3) .nil, shaped_ints gs, by decide, _, rfl, ?_⟩
            have hev : (!PyData.eqv (.list (gs.map PyData.int)) (.list [])) = true := by
              rw [egs]
              cases gs' with
              | nil => rw [List.nil_append, eqv_cons]; rfl
              | cons a b => rw [List.cons_append, eqv_cons]; rfl
            rw [hev]
            refine iteT ?_
            refine ⟨_, rfl, R, _, 0, .ref e', rfl, rfl, .of hR4, rfl, 1, rfl, e', _, -1, .int z, rfl, rfl, .of he4, by rw [egs]; exact lastI, ?_⟩
            refine ⟨_, rfl, R, _, 0, .ref e', rfl, rfl, .of hR4, rfl, 1, rfl, -1, rfl, e', _, rfl, .of he4, fun p5 hp5 => ?_⟩
            rw [egs, cut_last]
            have hR5 : upd H4 p5 (.lst (gs'.map V.int)) R = _ := (upd_ne (ne_of_none hR4 hp5)).trans hR4
            have o5 := o4.new hp5 (.lst (gs'.map V.int))
            generalize hH5 : upd H4 p5 (.lst (gs'.map V.int)) = H5 at *
            have h55 : H5 p5 = some (.lst (gs'.map V.int)) := by rw [← hH5]; exact upd_same
            clear hH5
            refine ⟨_, rfl, _, rfl, z, k, rfl, rfl, kdiv z, (show 1 ≤ sizeLine by decide), fun p6 hp6 => ?_⟩
            have hR6 : upd H5 p6 (.lst [.int (z / k)]) R = _ := (upd_ne (ne_of_none hR5 hp6)).trans hR5
            have h56 : upd H5 p6 (.lst [.int (z / k)]) p5 = _ := (upd_ne (ne_of_none h55 hp6)).trans h55
            have o6 := o5.new hp6 (.lst [.int (z / k)])
            generalize hH6 : upd H5 p6 (.lst [.int (z / k)]) = H6 at *
            have h66 : H6 p6 = some (.lst [.int (z / k)]) := by rw [← hH6]; exact upd_same
            clear hH6
            refine ⟨p5, p6, _, _, rfl, rfl, h56, h66, ?_, fun p7 hp7 => ?_⟩
            · rw [List.length_map]
              rw [egs] at hg
              exact Nat.le_trans (show gs'.length + 1 ≤ 1000 by simp at hg; omega) (by decide)
            have hR7 : upd H6 p7 (.lst (gs'.map V.int ++ [.int (z / k)])) R = _ := (upd_ne (ne_of_none hR6 hp7)).trans hR6
            have o7 := o6.new hp7 (.lst (gs'.map V.int ++ [.int (z / k)]))
            have n7 : H p7 = none := o6.dm p7 hp7
            generalize hH7 : upd H6 p7 (.lst (gs'.map V.int ++ [.int (z / k)])) = H7 at *
            have h77 : H7 p7 = some (.lst (gs'.map V.int ++ [.int (z / k)])) := by rw [← hH7]; exact upd_same
            clear hH7
            have ne7 : p7 ≠ R := (ne_of_none hR6 hp7).symm
            refine ⟨_, rfl, R, _, 0, 0, rfl, rfl, hR7, rfl, ?_⟩
            refine ⟨_, rfl, _, rfl, z, k, rfl, rfl, c1, ?_⟩
            have hgl : (strip j.great) = gs' ++ [z] := by rw [← hst, egs, strip_snoc _ hz]
            have hv : (j.roll k).1 = z % k ∧ (j.roll k).2.great = gs' ++ [z / k] ∧ (j.roll k).2.small = j.small ∧ (j.roll k).2.n = j.n := by
              unfold DJ.roll
              split
              · rename_i z' hz'
                rw [hgl] at hz'
                simp at hz'
                subst hz'
                exact ⟨rfl, by simp [hgl], rfl, rfl⟩
              · rename_i hz'
                rw [hgl] at hz'
                simp at hz'
            obtain ⟨v1, v2, v3, v4⟩ := hv
            refine q F _ _ _ ((o7.at aR _).postD fh fa aR (.inr n7) ne7 (by rw [upd_same, v3, v4]; rfl) ?_ sM na) (by rw [v1]; exact .int _)
            rw [upd_ne ne7, h77, v2, List.map_append]
            rfl
          rcases List.eq_nil_or_concat gs with rfl | ⟨gs', z, rfl⟩
          · refine iteF ?_
            refine iteF ?_
            -- nothing great is left
            refine ⟨_, rfl, R, _, 0, .ref e', rfl, rfl, .of hR', rfl, by decide, fun p3 hp3 => ?_⟩
            have he4 : upd H2 p3 (.lst []) e' = some (.lst (([] : List Int).map V.int)) := by rw [upd_ne (ne_of_none he' hp3)]; exact he'
            have hR4 : upd H2 p3 (.lst []) R = _ := (upd_ne (ne_of_none hR' hp3)).trans hR'
            have o4 := o2.new hp3 (.lst [])
            generalize hH4 : upd H2 p3 (.lst []) = H4 at *
            have hpp3 : H4 p3 = some (.lst []) := by rw [← hH4]; exact upd_same
            clear hH4
            refine ⟨.list (([] : List Int).map PyData.int), .list [], .lst (.of he4) (dpInts []), .lst (.of hpp3) .nil, shaped_ints [], by decide, _, rfl, ?_⟩
            refine iteF ?_
            obtain ⟨w1, w2⟩ := rnd1_rng j.small j.n
            refine ⟨_, rfl, R, _, 2, .int (j.n : Nat), rfl, rfl, .of hR4, rfl, _, _, rfl, rfl, _, rfl, R, _, 2, 2, rfl, rfl, hR4, rfl, ?_⟩
            have o5 := o4.at aR (.lst [.ref e', .int j.small, .int ((j.n : Nat) + 1)])
            have he5 : upd H4 R (.lst [.ref e', .int j.small, .int ((j.n : Nat) + 1)]) e' = _ := (upd_ne hne).trans he4
            have hR5 : upd H4 R (.lst [.ref e', .int j.small, .int ((j.n : Nat) + 1)]) R = some (.lst [.ref e', .int j.small, .int ((j.n : Nat) + 1)]) := upd_same
            show tSeq _ _ _ _ (upd H4 R (.lst [.ref e', .int j.small, .int ((j.n : Nat) + 1)]))
            generalize hH5 : upd H4 R (.lst [.ref e', .int j.small, .int ((j.n : Nat) + 1)]) = H5 at *
            clear hH5
            refine ⟨_, rfl, R, _, 1, .int j.small, rfl, rfl, .of hR5, rfl, _, _, rfl, rfl, wide_mul (a := 64) (b := 64) (by omega) (by omega) (by decide) (by decide) (by decide), _, rfl, R, _, 2, .int ((j.n : Nat) + 1), rfl, rfl, .of hR5, rfl, _, _, rfl, rfl, wide_mul (a := 64) (b := 64) (by omega) (by omega) (by decide) (by decide) (by decide), _, _, rfl, rfl, _, _, rfl, rfl, _, _, rfl, rfl, (show (0 : Int) < _ by decide), _, rfl, R, _, 1, 1, rfl, rfl, hR5, rfl, ?_⟩
            have o6 := o5.at aR (.lst [.ref e', .int (rnd1 j.small j.n), .int ((j.n : Nat) + 1)])
            have he6 : upd H5 R (.lst [.ref e', .int (rnd1 j.small j.n), .int ((j.n : Nat) + 1)]) e' = _ := (upd_ne hne).trans he5
            have hR6 : upd H5 R (.lst [.ref e', .int (rnd1 j.small j.n), .int ((j.n : Nat) + 1)]) R = some (.lst [.ref e', .int (rnd1 j.small j.n), .int ((j.n : Nat) + 1)]) := upd_same
            show tRet (tOp rMod (tOp rDivW (tOp rMod (tOp rAddI (tOp rMulW (tOp (rIxL K) (tVar 0) (tC (.int 1))) (tOp (rIxL K) (tVar 0) (tC (.int 1)))) (tOp (rIxL K) (tVar 0) (tC (.int 2)))) (tC (.int 999999999989))) (tC (.int 5))) (tVar 1)) { nx := fun x H' => Q V.non H', rt := Q } [some (V.ref R), some (V.int k), none] (upd H5 R (.lst [.ref e', .int (rnd1 j.small j.n), .int ((j.n : Nat) + 1)]))
            generalize hH6 : upd H5 R (.lst [.ref e', .int (rnd1 j.small j.n), .int ((j.n : Nat) + 1)]) = H6 at *
            clear hH6
            refine ⟨_, rfl, R, _, 1, .int (rnd1 j.small j.n), rfl, rfl, .of hR6, rfl, _, rfl, R, _, 1, .int (rnd1 j.small j.n), rfl, rfl, .of hR6, rfl, _, _, rfl, rfl, wide_mul (a := 64) (b := 64) (by omega) (by omega) (by decide) (by decide) (by decide), _, rfl, R, _, 2, .int ((j.n : Nat) + 1), rfl, rfl, .of hR6, rfl, _, _, rfl, rfl, _, _, rfl, rfl, (show (0 : Int) < _ by decide), _, _, rfl, rfl, ⟨by decide, by decide⟩, _, rfl, _, _, rfl, rfl, c1, ?_⟩
            have hgl : (strip j.great) = [] := by rw [← hst]; rfl
            have hv : (j.roll k).1 = (rnd1 j.small j.n * rnd1 j.small j.n + ((j.n : Int) + 1)) % 999999999989 / 5 % k ∧ (j.roll k).2.great = [] ∧ (j.roll k).2.small = rnd1 j.small j.n ∧ (j.roll k).2.n = j.n + 1 := by
              unfold DJ.roll
              split
              · rename_i z' hz'
                rw [hgl] at hz'
                cases hz'
              · exact ⟨rfl, rfl, rfl, rfl⟩
            obtain ⟨v1, v2, v3, v4⟩ := hv
            exact q F _ _ _ (o6.postD fh fa aR hae hne (by rw [v3, v4]; exact hR6) (by rw [v2]; exact he6) sM na) (by rw [v1]; exact .int _)
          · rw [List.concat_eq_append] at *
            have hev : (!PyData.eqv (.list ((gs' ++ [z]).map PyData.int)) (.list [])) = true := by
              cases gs' with
              | nil => rw [List.nil_append, eqv_cons]; rfl
              | cons a b => rw [List.cons_append, eqv_cons]; rfl
            rw [hev]
            refine iteT ?_
            refine ⟨_, rfl, R, _, 0, .ref e', rfl, rfl, .of hR', rfl, 1, rfl, e', _, -1, .int z, rfl, rfl, .of he', lastI, rfl, _, rfl, ?_⟩
            by_cases hz : z = 0
            · subst hz
              refine iteT ?_
              refine ⟨fun σ H' => ∃ (gs : List Int) (e' : Addr), σ = [some (.ref R), some (.int k), none] ∧ gs.length < (gs' ++ [0]).length ∧ gs.length ≤ 100 ∧ e' ≠ R ∧ (A e' ∨ H e' = none) ∧ H' R = some (.lst [.ref e', .int j.small, .int (j.n : Nat)]) ∧ H' e' = some (.lst (gs.map V.int)) ∧ Out A H H' ∧ strip gs = strip j.great,
                fun σ' H' ⟨gs, e', a1, a2, a3⟩ => ⟨gs.length, a2, gs, e', a1, rfl, a3⟩, ?_⟩
              refine ⟨_, rfl, R, _, 0, .ref e', rfl, rfl, .of hR', rfl, 1, rfl, -1, rfl, e', _, rfl, .of he', fun p5 hp5 => ?_⟩
              rw [cut_last]
              have hR5 : upd H2 p5 (.lst (gs'.map V.int)) R = _ := (upd_ne (ne_of_none hR' hp5)).trans hR'
              have o5 := o2.new hp5 (.lst (gs'.map V.int))
              have n5 : H p5 = none := o2.dm p5 hp5
              have ne5 : p5 ≠ R := (ne_of_none hR' hp5).symm
              refine ⟨_, rfl, R, _, 0, 0, rfl, rfl, hR5, rfl, gs', p5, rfl, by simp, by simp at hg; omega, ne5, .inr n5, upd_same, ?_, o5.at aR _, ?_⟩
              · rw [upd_ne ne5]; exact upd_same
              · rw [← hst, strip_snoc0]
            · have hd : decide (V.int z = V.int 0) = false := by simpa using hz
              rw [hd]
              refine iteF ?_
              exact go gs' z H2 rfl hR' he' o2 hz
    · cases hf
  · cases hf

def jsND (K : PySem.W.Frag) (cl xc : Nat → Addr) (xf : Nat → Str) (R : Addr) : Js Nat where
  K := K
  R := .ref R
  cl := cl
  xc := xc
  xf := xf
  rep := fun n _ A H => ∃ j : DJ, j.n ≤ n ∧ repD R j A H
  frame := fun {n F F' A H H'} ⟨j, e, h⟩ s q => ⟨j, e, (jsD K R).frame (F := F) (F' := F') h s q⟩
  dom := fun {n F A H b} ⟨j, e, h⟩ a => (jsD K R).dom (F := F) h a
instance {K : PySem.W.Frag} {cl xc : Nat → Addr} {xf : Nat → Str} {R : Addr} : PureJ (jsND K cl xc xf R) := ⟨fun h => h⟩
theorem roll_spec {K : PySem.W.Frag} {cl xc : Nat → Addr} {xf : Nat → Str} {R : Addr} {vs : List V} {H : Hp} {Q : VK} {E : XK} (h : spF (jsND K cl xc xf R) 2 drawF vs H Q E) : spFO (jsD K R) 2 rollF vs H Q E := by
  obtain ⟨F, A, n, ds, P, Ep, fh, fa, ⟨j, hj, jr⟩, sM, rp, hl, ⟨k, rfl, h1, h2, h3, hp⟩, q, _⟩ := h
  have rp' : RpL (jsD K R) F [.jar, .int k] vs := by
    cases rp with
    | cons r1 rp =>
      cases rp with
      | cons r2 rp =>
        cases rp
        cases r1
        cases r2
        exact .cons .jar (.cons (.int _) .nil)
  refine ⟨F, A, j, _, .int (j.roll k).1, (j.roll k).2, fh, fa, jr, sM, rp', rfl, ?_, fun F' A' H' v p r => ?_⟩
  · show (if _ then _ else _) = _
    rw [if_pos (by simp [h1, h2]; omega)]
  · have hv : v = .int (j.roll k).1 := int_of r
    subst hv
    exact q _ _ F' A' H' _ (hp _ (j.roll_rng h1).1 (j.roll_rng h1).2) ⟨p.sub, p.fh, p.fa, ⟨_, Nat.le_trans (j.roll_n k) (Nat.succ_le_succ hj), p.jr⟩, p.keep, p.ff, p.af, p.dm, p.sm⟩ (.int _)
end Mp

/-! NQ: how the source of k37 to k47 is opened. -/
namespace Mp
open PySem PySem.Spec L2
open PyProof.Rows hiding St
def spOpenD (c : Nat) (K : PySem.W.Frag) : Sp := spOpenG (jsD K) (fun j => j.n = c) K
def rLtI : R2 := rI0 fun i j => .bl (decide (i < j))
def tAbs2 : TE := tCB rAbs1 (tCons (tVar 2) tNil)
def tTen18 : TE := tOp rPowI (tC (.int 10)) (tC (.int 18))
def tCut61 (K : PySem.W.Frag) : TE := L2.tSl (rSlL K) (tVar 0) tNoPart (tPart (tC (.int 61)))
def tOpenD (c : Int) (K : PySem.W.Frag) : TS :=
  tSeq (tAsg (tC (.int c)) (gName 1))
  (tSeq (tFor (iList K (tCut61 K)) (gName 2) (tIfS (tTest (tOp rLtI tAbs2 tTen18))
      (tAsg (tOp rMod (tOp rAddI (tOp rAddI (tOp rMulW (tVar 1) (tC (.int 48611))) tAbs2) (tOp rMulW (tC (.int 3)) (tCB rIntB (tCons (tOp rLtI (tVar 2) (tC (.int 0))) tNil)))) (tC (.int 1000000000039))) (gName 1)) tNext))
  (tRet (tLst (tCons (tLc (iList K (tCut61 K)) (gName 2) (tTest (tOp rGe tAbs2 tTen18)) tAbs2 [2]) (tCons (tVar 1) (tCons (tC (.int c)) tNil))))))
theorem cut61 {ns : List Int} : cutV (ns.map V.int) none (some 61) = (ns.take 61).map V.int := by
  unfold cutV
  have e1 : HT.sIx (ns.map V.int).length 0 none = 0 := rfl
  have e2 : HT.sIx (ns.map V.int).length (ns.map V.int).length (some 61) = min 61 (ns.map V.int).length := rfl
  rw [e1, e2, List.drop_zero, Nat.sub_zero, List.map_take]
  by_cases h : 61 ≤ (ns.map V.int).length
  · rw [Nat.min_eq_left h]
  · rw [Nat.min_eq_right (by omega), List.take_length, List.take_of_length_le (by omega)]
theorem openD_pure {c : Nat} (hc : c < 1000000) {K : PySem.W.Frag} {N : List Str} (hN : N.length = 3) {vs : List V} {H : Hp} {Q : VK} {E : XK} (h : spOpenD c K vs H Q E) : tOpenD c K { nx := fun _ H' => Q .non H', rt := Q } (L2.start N vs) H := by
  obtain ⟨a, ns, rfl, hl, hS, q⟩ := h
  have st : L2.start N [.ref a] = [some (.ref a), none, none] := by unfold L2.start; rw [hN]; rfl
  rw [st]
  refine ⟨.ref a, rfl, 61, rfl, a, _, rfl, hS, fun p hp => ?_⟩
  rw [cut61]
  have s1 : Same H (upd H p (.lst ((ns.take 61).map V.int))) := same_new hp
  generalize hH1 : upd H p (.lst ((ns.take 61).map V.int)) = H1 at *
  have hp1 : H1 p = some (.lst ((ns.take 61).map V.int)) := by rw [← hH1]; exact upd_same
  clear hH1
  refine ⟨p, rfl, ⟨_, .of hp1⟩, for_list (K := K) (a := p) (xs := (ns.take 61).map V.int) (fun i σ H' => H' = H1 ∧ ∃ (s : Int) (v : Option V), σ = [some (.ref a), some (.int s), v] ∧ 0 ≤ s ∧ s < 1000000000039) ⟨rfl, c, none, rfl, by omega, by omega⟩ (fun i σ H' _ h => by rw [h.1]; exact .of hp1) ?_ ?_⟩
  · rintro i y σ H' hi ⟨rfl, s, v, rfl, s0, s1'⟩
    obtain ⟨z, hz, rfl⟩ : ∃ z, (ns.take 61)[i]? = some z ∧ y = V.int z := by
      rw [List.getElem?_map, Option.map_eq_some_iff] at hi
      obtain ⟨z, h1, h2⟩ := hi
      exact ⟨z, h1, h2.symm⟩
    refine ⟨_, rfl, z, rfl, _, _, rfl, rfl, ⟨by decide, by decide, by decide⟩, _, _, rfl, rfl, _, rfl, ?_⟩
    by_cases hz2 : (if z < 0 then -z else z) < 10 ^ (18 : Int).toNat
    · rw [decide_eq_true hz2]
      refine iteT ?_
      refine ⟨_, rfl, _, _, rfl, rfl, wide_mul (a := 64) (b := 64) (by omega) (by omega) (by decide) (by decide) (by decide), _, rfl, z, rfl, _, _, rfl, rfl, _, rfl, _, _, rfl, rfl, .inr ⟨_, rfl, 3, _, rfl, rfl, ?_, _, _, rfl, rfl, _, _, rfl, rfl, (show (0 : Int) < _ by decide), rfl, _, some (.int z), rfl, Int.emod_nonneg _ (by decide), Int.emod_lt_of_pos _ (by decide)⟩⟩
      split <;> exact wide_mul (a := 64) (b := 64) (by decide) (by decide) (by decide) (by decide) (by decide)
    · rw [decide_eq_false hz2]
      refine iteF ?_
      exact ⟨rfl, s, some (.int z), rfl, s0, s1'⟩
  · rintro σ H' ⟨rfl, s, v, rfl, s0, s1'⟩
    refine ⟨.ref a, rfl, 61, rfl, a, _, rfl, s1.seq hS, fun p2 hp2 => ?_⟩
    rw [cut61]
    have s2 := s1.trans (same_new (o := .lst ((ns.take 61).map V.int)) hp2)
    refine ⟨p2, rfl, ⟨_, .of upd_same⟩, fun e ne => ?_⟩
    have ne0 := s2.free ne
    refine lcI (σ := [some (.ref a), some (.int s), v]) (i := 2) absI (fun x => decide (10 ^ 18 ≤ absI x)) (.of upd_same) ne (by rw [List.length_take]; omega) (fun x H Q h => ⟨_, rfl, x, rfl, _, _, rfl, rfl, ⟨by decide, by decide, by decide⟩, _, _, rfl, rfl, _, rfl, h⟩) (fun x H Q h => ⟨_, rfl, x, rfl, h⟩) ?_
    have s3 := s2.trans (same_new (o := .lst ((((ns.take 61).filter fun x => decide (10 ^ 18 ≤ absI x)).map absI).map V.int)) ne)
    refine ⟨_, rfl, (show 3 ≤ sizeLine by decide), fun R nR => ?_⟩
    have nR0 := s3.free nR
    have re : e ≠ R := ne_of_none upd_same nR
    refine q _ R (fun b => b = R ∨ b = e) ⟨((ns.take 61).filter fun x => decide (10 ^ 18 ≤ absI x)).map absI, s, c, ?_, s0, s1'⟩ (s3.trans (same_new nR)) (fun b hb => ?_) rfl ⟨e, re, upd_same, ?_, fun b => Iff.rfl⟩
    · rw [List.length_map]
      refine Nat.le_trans (List.length_filter_le _ _) ?_
      rw [List.length_take]; omega
    · rcases hb with rfl | rfl
      · exact nR0
      · exact ne0
    · rw [upd_ne re]; exact upd_same
theorem open_deal {c : Nat} (hc : c < 1000000) {K : PySem.W.Frag} {cl xc : Nat → Addr} {xf : Nat → Str} {vs : List V} {H : Hp} {Q : VK} {E : XK} (h : spOpenG (jsND K cl xc xf) Few K vs H Q E) : spOpenD c K vs H Q E := by
  obtain ⟨a, ns, e, l, s, q⟩ := h
  exact ⟨a, ns, e, l, s, fun H' R A j sm fr gd rp => q H' R A c sm fr (Nat.le_of_lt hc) ⟨j, Nat.le_of_eq gd, rp⟩⟩
end Mp

/-! NM: what a closure brings about, step by step. -/
namespace Mp
open PySem L2
variable {J : Type}
/-- kept from simp: what a thing of this type hangs on is not rewritten -/
inductive Tg {α β : Sort _} (a : α) (b : β) : Type | mk
/-- a call, a loop: what follows is not looked at -/
def WF (φ : Fv J) (ds : List D) (j : J) (P : D → J → Prop) (E : Ex → J → Prop) (_t : Tg P E := .mk) : Prop := φ ds j P E
def WL (γ : Gv) (fb : Sv J) (ds : List D) (m : Sd) (j : J) (P : Fl → Sd → J → Prop) (E : XP J) (_t : Tg P E := .mk) : Prop := forW γ fb ds m j P E
def WC (wm : Sd) (γ : Gv) (ft : Tv J) (fe : Ev J) (ds : List D) (j : J) (P : List D → J → Prop) (_t : Tg P True := .mk) : Prop := compW wm γ ft fe ds [] j P
def WH (tc : Tv J) (fb : Sv J) (m : Sd) (j : J) (P : Fl → Sd → J → Prop) (E : XP J) (_t : Tg P E := .mk) : Prop := sWhile tc fb m j P E
section
variable {f fa fb fc fe fk : Ev J} {fr : Av J} {t ta tb : Tv J} {s s1 s2 : Sv J} {m : Sd} {j : J} {P : D → J → Prop} {PT : Bool → J → Prop} {PA : List D → J → Prop} {PO : Option Int → J → Prop} {PS : Fl → Sd → J → Prop} {E : XP J} {i k l : Nat} {d : D} {fl fh : Pv J} {fi : Iv J} {γ : Gv} {φ ψ : D → D → Option D} {χ : D → Option D}
@[simp ↓] theorem a_var : eVar i m j P E = ∃ d, m[i]? = some (some d) ∧ P d j := rfl
@[simp ↓] theorem a_c : eC d m j P E = P d j := rfl
@[simp ↓] theorem a_op : eOp φ fa fb m j P E = fa m j (fun x j1 => fb m j1 (fun y j2 => ∃ z, φ x y = some z ∧ P z j2) E) E := rfl
@[simp ↓] theorem a_mt : eMt φ fa fb m j P E = fa m j (fun x j1 => isSq x ∧ fb m j1 (fun y j2 => ∃ z, φ x y = some z ∧ P z j2) E) E := rfl
@[simp ↓] theorem a_un : eUn χ fa m j P E = fa m j (fun x j1 => ∃ z, χ x = some z ∧ P z j1) E := rfl
@[simp ↓] theorem a_nl : aNil m j PA E = PA [] j := rfl
@[simp ↓] theorem a_cs : aCons fa fr m j PA E = fa m j (fun x j1 => fr m j1 (fun xs j2 => PA (x :: xs) j2) E) E := rfl
@[simp ↓] theorem a_tup : eTup fr m j P E = fr m j (fun xs j1 => xs.length ≤ LINE ∧ P (.tup xs) j1) E := rfl
@[simp ↓] theorem a_lst : eLst fr m j P E = fr m j (fun xs j1 => xs.length ≤ LINE ∧ P (.lst xs) j1) E := rfl
@[simp ↓] theorem a_b {χ : List D → Option D} : eB χ fr m j P E = fr m j (fun xs j1 => ∃ z, χ xs = some z ∧ P z j1) E := rfl
@[simp ↓] theorem a_call {φ : Fv J} : eCall φ fr m j P E = fr m j (fun xs j1 => WF φ xs j1 P (fun e j' => E e m j')) E := rfl
@[simp ↓] theorem a_callM {φ : Fv J} : eCallM φ fr m j P E = fr m j (fun xs j1 => WF φ xs j1 P (fun _ _ => False)) E := rfl
@[simp ↓] theorem a_pn : pNone m j PO E = PO none j := rfl
@[simp ↓] theorem a_ps : pSome f m j PO E = f m j (fun d j1 => ∃ i, d = .int i ∧ PO (some i) j1) E := rfl
@[simp ↓] theorem a_sl {φ : D → Option Int → Option Int → Option D} : eSl φ fa fl fh m j P E = fa m j (fun x j1 => fl m j1 (fun l j2 => fh m j2 (fun u j3 => ∃ z, φ x l u = some z ∧ P z j3) E) E) E := rfl
@[simp ↓] theorem a_if : eIf t fa fb m j P E = t m j (fun b j1 => if b = true then fa m j1 P E else fb m j1 P E) E := rfl
@[simp ↓] theorem a_to : tOf fa m j PT E = fa m j (fun x j1 => ∃ b, truD x = some b ∧ PT b j1) E := rfl
@[simp ↓] theorem a_tb : tBl fa m j PT E = fa m j (fun x j1 => ∃ b, x = .bl b ∧ PT b j1) E := rfl
@[simp ↓] theorem a_ta : tAndD ta tb m j PT E = ta m j (fun b j1 => if b = true then tb m j1 PT E else PT false j1) E := rfl
@[simp ↓] theorem a_tor : tOrD ta tb m j PT E = ta m j (fun b j1 => if b = true then PT true j1 else tb m j1 PT E) E := rfl
@[simp ↓] theorem a_tn : tNotD ta m j PT E = ta m j (fun b j1 => PT (!b) j1) E := rfl
@[simp ↓] theorem a_ty : tYesD m j PT E = PT true j := rfl
@[simp ↓] theorem a_ch : eChain φ ψ fa fb fc m j P E = fa m j (fun x j1 => fb m j1 (fun y j2 => ∃ b, φ x y = some (.bl b) ∧ if b = true then fc m j2 (fun z j3 => ∃ d, ψ y z = some d ∧ P d j3) E else P (.bl false) j2) E) E := rfl
@[simp ↓] theorem a_and : eAnd fa fb m j P E = fa m j (fun x j1 => ∃ b, truD x = some b ∧ if b = true then fb m j1 P E else P x j1) E := rfl
@[simp ↓] theorem a_or : eOr fa fb m j P E = fa m j (fun x j1 => ∃ b, truD x = some b ∧ if b = true then P x j1 else fb m j1 P E) E := rfl
@[simp ↓] theorem a_not : eNot fa m j P E = fa m j (fun x j1 => ∃ b, truD x = some b ∧ P (.bl (!b)) j1) E := rfl
@[simp ↓] theorem a_iseq : iSeq f m j PA E = f m j (fun d j1 => ∃ xs, seqL d = some xs ∧ PA xs j1) E := rfl
@[simp ↓] theorem a_ir1 : iRng1 f m j PA E = f m j (fun d j1 => ∃ n, d = .int n ∧ -LIM ≤ n ∧ n ≤ LIM ∧ PA (rngD 0 n.toNat) j1) E := rfl
@[simp ↓] theorem a_ir2 : iRng2 fa fb m j PA E = fa m j (fun d j1 => fb m j1 (fun d2 j2 => ∃ a b, d = .int a ∧ d2 = .int b ∧ -LIM ≤ a ∧ a ≤ LIM ∧ -LIM ≤ b ∧ b ≤ LIM ∧ PA (rngD a (b - a).toNat) j2) E) E := rfl
@[simp ↓] theorem a_ien : iEnm f m j PA E = f m j (fun d j1 => ∃ xs, d = .lst xs ∧ PA (enumD xs) j1) E := rfl
@[simp ↓] theorem a_izp : iZip fa fb m j PA E = fa m j (fun x j1 => fb m j1 (fun y j2 => ∃ zs, zipO x y = some zs ∧ PA zs j2) E) E := rfl
@[simp ↓] theorem a_lrg : eLrg fi m j P E = fi m j (fun ds j1 => ds.length ≤ LINE ∧ P (.lst ds) j1) E := rfl
@[simp ↓] theorem a_trg : eTrg fi m j P E = fi m j (fun ds j1 => ds.length ≤ LINE ∧ P (.tup ds) j1) E := rfl
@[simp ↓] theorem a_comp {vs : List Nat} : eComp vs fi γ t fe m j P E = fi m j (fun ds j1 => ds.length ≤ LINE ∧ WC (wipeD m vs) γ t fe ds j1 (fun ys j2 => P (.lst ys) j2)) E := rfl
@[simp ↓] theorem a_snil : sNil m j PS E = PS .next m j := rfl
@[simp ↓] theorem a_sseq : sSeq s1 s2 m j PS E = s1 m j (thenS s2 PS E) E := rfl
@[simp ↓] theorem a_th_n : thenS s2 PS E .next m j = s2 m j PS E := rfl
@[simp ↓] theorem a_th_b : thenS s2 PS E .brk m j = PS .brk m j := rfl
@[simp ↓] theorem a_th_c : thenS s2 PS E .cnt m j = PS .cnt m j := rfl
@[simp ↓] theorem a_th_r : thenS s2 PS E (.ret d) m j = PS (.ret d) m j := rfl
@[simp ↓] theorem a_sexp : sExpr f m j PS E = f m j (fun _ j1 => PS .next m j1) E := rfl
@[simp ↓] theorem a_sbrk : sBrk m j PS E = PS .brk m j := rfl
@[simp ↓] theorem a_scnt : sCnt m j PS E = PS .cnt m j := rfl
@[simp ↓] theorem a_snev : sNever m j PS E = False := rfl
@[simp ↓] theorem a_sret : sRet f m j PS E = f m j (fun d j1 => PS (.ret d) m j1) E := rfl
@[simp ↓] theorem a_srN : sRetN m j PS E = PS (.ret .non) m j := rfl
@[simp ↓] theorem a_sif : sIf t s1 s2 m j PS E = t m j (fun b j1 => if b = true then s1 m j1 PS E else s2 m j1 PS E) E := rfl
@[simp ↓] theorem a_sset : sSet i f m j PS E = f m j (fun d j1 => PS .next (m.set i (some d)) j1) E := rfl
@[simp ↓] theorem a_sasg : sAsg γ f m j PS E = f m j (fun d j1 => ∃ m1, γ d m = some m1 ∧ PS .next m1 j1) E := rfl
@[simp ↓] theorem a_saug : sAug φ i f m j PS E = ∃ x, m[i]? = some (some x) ∧ f m j (fun y j1 => ∃ z, φ x y = some z ∧ PS .next (m.set i (some z)) j1) E := rfl
@[simp ↓] theorem a_sfor : sFor fi γ s m j PS E = fi m j (fun ds j1 => WL γ s ds m j1 PS E) E := rfl
@[simp ↓] theorem a_swh : sWhile t s m j PS E = WH t s m j PS E := rfl
@[simp ↓] theorem a_spr2 : sPr2 i k fa fb m j PS E = fa m j (fun x j1 => fb m j1 (fun y j2 => PS .next ((m.set i (some x)).set k (some y)) j2) E) E := rfl
@[simp ↓] theorem a_spr3 : sPr3 i k l fa fb fc m j PS E = fa m j (fun x j1 => fb m j1 (fun y j2 => fc m j2 (fun z j3 => PS .next (((m.set i (some x)).set k (some y)).set l (some z)) j3) E) E) E := rfl
@[simp ↓] theorem a_sapp : sApp i f m j PS E = ∃ xs, m[i]? = some (some (.lst xs)) ∧ f m j (fun d j1 => xs.length < LINE ∧ PS .next (m.set i (some (.lst (xs ++ [d])))) j1) E := rfl
@[simp ↓] theorem a_sext : sExt i f m j PS E = ∃ xs, m[i]? = some (some (.lst xs)) ∧ f m j (fun d j1 => ∃ ys, d = .lst ys ∧ xs.length + ys.length ≤ LINE ∧ PS .next (m.set i (some (.lst (xs ++ ys)))) j1) E := rfl
@[simp ↓] theorem a_ssix : sSetIx i fk fe m j PS E = ∃ xs, m[i]? = some (some (.lst xs)) ∧ fe m j (fun d j1 => fk m j1 (fun kk j2 => ∃ k n, kk = .int k ∧ ixN xs.length k = some n ∧ PS .next (m.set i (some (.lst (xs.set n d)))) j2) E) E := rfl
@[simp ↓] theorem a_sapo : sAppPop i k f m j PS E = ∃ xs ys, m[i]? = some (some (.lst xs)) ∧ m[k]? = some (some (.lst ys)) ∧ i ≠ k ∧ f m j (fun d j1 => ∃ n y, d = .int n ∧ 0 ≤ n ∧ n < (ys.length : Int) ∧ xs.length < LINE ∧ ys.length ≤ LINE ∧ ys[n.toNat]? = some y ∧
    PS .next ((m.set k (some (.lst (ys.eraseIdx n.toNat)))).set i (some (.lst (xs ++ [y])))) j1) E := rfl
@[simp ↓] theorem a_spop : sPopTo i γ m j PS E = ∃ xs y m1, m[i]? = some (some (.lst xs)) ∧ xs.getLast? = some y ∧ γ y (m.set i (some (.lst xs.dropLast))) = some m1 ∧ PS .next m1 j := rfl
@[simp ↓] theorem a_spopa : sPopAt i f γ m j PS E = ∃ ys, m[i]? = some (some (.lst ys)) ∧ f m j (fun d j1 => ∃ n y m1, d = .int n ∧ 0 ≤ n ∧ n < (ys.length : Int) ∧ ys.length ≤ LINE ∧ ys[n.toNat]? = some y ∧ γ y (m.set i (some (.lst (ys.eraseIdx n.toNat)))) = some m1 ∧ PS .next m1 j1) E := rfl
theorem a_run {k n : Nat} {ds : List D} {E : Ex → J → Prop} (hl : ds.length = n) (h : s (startD k ds) j (endF P) (fun e _ j' => E e j')) : WF (runF k n s) ds j P E := ⟨hl, h⟩
@[simp ↓] theorem a_ef_r : endF P (.ret d) m j = P d j := rfl
@[simp ↓] theorem a_ef_n : endF P .next m j = P .non j := rfl
variable {N : Sd → J → Prop}
@[simp ↓] theorem a_tu_n : turnS N PS .next m j = N m j := rfl
@[simp ↓] theorem a_tu_c : turnS N PS .cnt m j = N m j := rfl
@[simp ↓] theorem a_tu_b : turnS N PS .brk m j = PS .next m j := rfl
@[simp ↓] theorem a_tu_r : turnS N PS (.ret d) m j = PS (.ret d) m j := rfl
end
/-- the slots are so (kept from simp) -/
def Is (m n : Sd) : Prop := m = n
/-! ### loops -/
section
variable {s : Sv J} {t : Tv J} {f : Ev J} {m wm : Sd} {j : J} {PS : Fl → Sd → J → Prop} {E : XP J} {γ : Gv} {P : List D → J → Prop}
theorem WF.mo {φ : Fv J} [h : MoF φ] {ds : List D} {P P' : D → J → Prop} {E E' : Ex → J → Prop} (h1 : WF φ ds j P E) (q : ∀ d j', P d j' → P' d j') (x : ∀ e j', E e j' → E' e j') : WF φ ds j P' E' := h.mo h1 q x
theorem wL_aux [h : MoS s] {Pv : Nat → Sd → J → Prop} {all : List D} (hs : ∀ k d m j, all[k]? = some d → Pv k m j → ∃ m1, γ d m = some m1 ∧ s m1 j (turnS (fun m2 j2 => Pv (k + 1) m2 j2) PS) E) (hd : ∀ m j, Pv all.length m j → PS .next m j) :
    ∀ (ds : List D) (k : Nat) (m : Sd) (j : J), all.drop k = ds → k ≤ all.length → Pv k m j → forW γ s ds m j PS E
  | [], k, m, j, e, hk, p => by
    have h0 := congrArg List.length e
    simp at h0
    have : k = all.length := by omega
    subst this
    exact hd m j p
  | d :: ds, k, m, j, e, hk, p => by
    have hlt : k < all.length := by
      have := congrArg List.length e
      simp at this; omega
    have hg : all[k]? = some d := by
      rw [List.drop_eq_getElem_cons hlt] at e
      rw [List.getElem?_eq_getElem hlt]
      exact congrArg some (List.cons.inj e).1
    obtain ⟨m1, e1, q⟩ := hs k d m j hg p
    refine ⟨m1, e1, h.mo q (turnS_mo (fun m2 j2 p2 => wL_aux hs hd ds (k + 1) m2 j2 ?_ hlt p2) fun _ _ _ z => z) fun _ _ _ z => z⟩
    rw [List.drop_eq_getElem_cons hlt] at e
    exact (List.cons.inj e).2
/-- a for by its invariant: Pv k m j holds where k items are done -/
theorem wL_inv [MoS s] {ds : List D} (Pv : Nat → Sd → J → Prop) (h0 : Pv 0 m j) (hs : ∀ k d m j, ds[k]? = some d → Pv k m j → ∃ m1, γ d m = some m1 ∧ s m1 j (turnS (fun m2 j2 => Pv (k + 1) m2 j2) PS) E) (hd : ∀ m j, Pv ds.length m j → PS .next m j) :
    WL γ s ds m j PS E := wL_aux hs hd ds 0 m j rfl (Nat.zero_le _) h0
theorem wL_nil : WL γ s [] m j PS E = PS .next m j := rfl
theorem wL_cons {d : D} {ds : List D} : WL γ s (d :: ds) m j PS E = ∃ m1, γ d m = some m1 ∧ s m1 j (turnS (fun m2 j2 => WL γ s ds m2 j2 PS E) PS) E := rfl
theorem wC_aux [ht : MoT t] [hf : MoE f] {Pv : Nat → List D → J → Prop} {all : List D} (hs : ∀ k d acc j, all[k]? = some d → Pv k acc j → ∃ m1, γ d wm = some m1 ∧ t m1 j (fun b j1 => if b = true then f m1 j1 (fun y j2 => Pv (k + 1) (acc ++ [y]) j2) xNo else Pv (k + 1) acc j1) xNo) (hd : ∀ ys j, Pv all.length ys j → P ys j) :
    ∀ (ds : List D) (k : Nat) (acc : List D) (j : J), all.drop k = ds → k ≤ all.length → Pv k acc j → compW wm γ t f ds acc j P
  | [], k, acc, j, e, hk, p => by
    have h0 := congrArg List.length e
    simp at h0
    have : k = all.length := by omega
    subst this
    exact hd acc j p
  | d :: ds, k, acc, j, e, hk, p => by
    have hlt : k < all.length := by
      have := congrArg List.length e
      simp at this; omega
    have hg : all[k]? = some d := by
      rw [List.drop_eq_getElem_cons hlt] at e
      rw [List.getElem?_eq_getElem hlt]
      exact congrArg some (List.cons.inj e).1
    have ed : all.drop (k + 1) = ds := by
      rw [List.drop_eq_getElem_cons hlt] at e
      exact (List.cons.inj e).2
    obtain ⟨m1, e1, q⟩ := hs k d acc j hg p
    exact ⟨m1, e1, ht.mo q (fun _ _ p => ite_mono p (fun p => hf.mo p (fun y j2 p2 => wC_aux hs hd ds (k + 1) _ j2 ed hlt p2) fun _ _ _ z => z) fun p => wC_aux hs hd ds (k + 1) _ _ ed hlt p) fun _ _ _ z => z⟩
/-- a comprehension by its invariant: k items are looked at, acc is made -/
theorem wC_inv [MoT t] [MoE f] {ds : List D} (Pv : Nat → List D → J → Prop) (h0 : Pv 0 [] j) (hs : ∀ k d acc j, ds[k]? = some d → Pv k acc j → ∃ m1, γ d wm = some m1 ∧ t m1 j (fun b j1 => if b = true then f m1 j1 (fun y j2 => Pv (k + 1) (acc ++ [y]) j2) xNo else Pv (k + 1) acc j1) xNo)
    (hd : ∀ ys j, Pv ds.length ys j → P ys j) : WC wm γ t f ds j P := wC_aux hs hd ds 0 [] j rfl (Nat.zero_le _) h0
/-- a comprehension over L, each item by itself -/
theorem wC_map [MoE f] {α : Type} {L : List α} {c : α → D} (h : α → D) (hs : ∀ x ∈ L, ∃ m1, γ (c x) wm = some m1 ∧ f m1 j (fun y j2 => y = h x ∧ j2 = j) xNo) (hd : P (L.map h) j) : WC wm γ tYesD f (L.map c) j P := by
  refine wC_inv (fun k acc j' => acc = (L.take k).map h ∧ j' = j) ⟨rfl, rfl⟩ (fun k d acc j' e ⟨e1, e2⟩ => ?_) fun ys j' ⟨e1, e2⟩ => ?_
  · rw [List.getElem?_map, Option.map_eq_some_iff] at e
    obtain ⟨x, hx, rfl⟩ := e
    subst e1 e2
    obtain ⟨m1, e3, q⟩ := hs x (List.mem_of_getElem? hx)
    refine ⟨m1, e3, ?_⟩
    show f m1 j' _ xNo
    refine MoE.mo q (fun y j2 ⟨e4, e5⟩ => ?_) fun _ _ _ z => z
    subst e4 e5
    refine ⟨?_, rfl⟩
    rw [List.take_add_one, hx]
    simp
  · rw [List.length_map, List.take_length] at e1
    rw [e1, e2]; exact hd
/-- .. those that pass a test -/
theorem wC_filter [MoT t] [MoE f] {α : Type} {L : List α} {c : α → D} (p : α → Bool) (h : α → D) (hs : ∀ x ∈ L, ∃ m1, γ (c x) wm = some m1 ∧ t m1 j (fun b j1 => b = p x ∧ j1 = j) xNo ∧ (p x = true → f m1 j (fun y j2 => y = h x ∧ j2 = j) xNo)) (hd : P ((L.filter p).map h) j) : WC wm γ t f (L.map c) j P := by
  refine wC_inv (fun k acc j' => acc = ((L.take k).filter p).map h ∧ j' = j) ⟨rfl, rfl⟩ (fun k d acc j' e ⟨e1, e2⟩ => ?_) fun ys j' ⟨e1, e2⟩ => ?_
  · rw [List.getElem?_map, Option.map_eq_some_iff] at e
    obtain ⟨x, hx, rfl⟩ := e
    subst e1 e2
    obtain ⟨m1, e3, q, r⟩ := hs x (List.mem_of_getElem? hx)
    refine ⟨m1, e3, MoT.mo q (fun b j1 ⟨e4, e5⟩ => ?_) fun _ _ _ z => z⟩
    subst e4 e5
    rw [List.take_add_one, hx]
    cases hp : p x with
    | true =>
      refine MoE.mo (r hp) (fun y j2 ⟨e6, e7⟩ => ?_) fun _ _ _ z => z
      subst e6 e7
      exact ⟨by simp [hp], rfl⟩
    | false => exact ⟨by simp [hp], rfl⟩
  · rw [List.length_map, List.take_length] at e1
    rw [e1, e2]; exact hd
theorem nrng {k : Nat} : rngD 0 k = (List.range k).map fun i => D.int ((i : Nat) : Int) := by unfold rngD; simp
theorem wC_rng [MoE f] {k : Nat} (h : Nat → D) (hs : ∀ i, i < k → ∃ m1, γ (.int ((i : Nat) : Int)) wm = some m1 ∧ f m1 j (fun y j2 => y = h i ∧ j2 = j) xNo) (hd : P ((List.range k).map h) j) : WC wm γ tYesD f (rngD 0 k) j P := by
  rw [nrng]
  exact wC_map h (fun x hx => hs x (List.mem_range.mp hx)) hd
theorem wC_rngF [MoT t] [MoE f] {k : Nat} (p : Nat → Bool) (h : Nat → D) (hs : ∀ i, i < k → ∃ m1, γ (.int ((i : Nat) : Int)) wm = some m1 ∧ t m1 j (fun b j1 => b = p i ∧ j1 = j) xNo ∧ (p i = true → f m1 j (fun y j2 => y = h i ∧ j2 = j) xNo)) (hd : P (((List.range k).filter p).map h) j) : WC wm γ t f (rngD 0 k) j P := by
  rw [nrng]
  exact wC_filter p h (fun x hx => hs x (List.mem_range.mp hx)) hd
theorem wH_aux [ht : MoT t] [hs : MoS s] {Pv : Nat → Sd → J → Prop} (hw : ∀ k m j, Pv k m j → t m j (fun b j1 => if b = true then s m j1 (turnS (fun m2 j2 => ∃ k', k' < k ∧ Pv k' m2 j2) PS) E else PS .next m j1) E) : ∀ (n k : Nat) (m : Sd) (j : J), k < n → Pv k m j → whW t s n m j PS E
  | 0, k, m, j, h, _ => absurd h (Nat.not_lt_zero _)
  | n + 1, k, m, j, h, p => ht.mo (hw k m j p) (fun b j1 q => ite_mono q (fun q => hs.mo q (turnS_mo (fun m2 j2 ⟨k', l, p'⟩ => wH_aux hw n k' m2 j2 (by omega) p') fun _ _ _ z => z) fun _ _ _ z => z) fun q => q) fun _ _ _ z => z
/-- a while by its invariant and a number that falls -/
theorem wH_inv [MoT t] [MoS s] (Pv : Nat → Sd → J → Prop) (n : Nat) (h0 : Pv n m j) (hw : ∀ k m j, Pv k m j → t m j (fun b j1 => if b = true then s m j1 (turnS (fun m2 j2 => ∃ k', k' < k ∧ Pv k' m2 j2) PS) E else PS .next m j1) E) : WH t s m j PS E := ⟨n + 1, wH_aux hw (n + 1) n m j (Nat.lt_succ_self _) h0⟩
/-- what holds between two statements -/
theorem wSeq [h1 : MoS s] {s2 : Sv J} (R : Fl → Sd → J → Prop) (h : s m j R E) (q : ∀ l m' j', R l m' j' → thenS s2 PS E l m' j') : sSeq s s2 m j PS E := h1.mo h q fun _ _ _ z => z
end
@[simp] theorem exS {α : Type} {a : α} {P : α → Prop} : (∃ z, some a = some z ∧ P z) ↔ P a := by
  constructor
  · rintro ⟨z, e, p⟩; cases e; exact p
  · intro p; exact ⟨a, rfl, p⟩
@[simp] theorem gN_i {i : Nat} {d : D} {m : Sd} : gNm i d m = some (m.set i (some d)) := rfl
@[simp] theorem gT_i {γ : Gvs} {ds : List D} {m : Sd} : gTp γ (.tup ds) m = γ ds m := rfl
@[simp] theorem gC_i {γ : Gv} {γs : Gvs} {d : D} {ds : List D} {m : Sd} : gsCons γ γs (d :: ds) m = (match γ d m with | some m1 => γs ds m1 | none => none) := rfl
@[simp] theorem g0_i {m : Sd} : gsNil [] m = some m := rfl
@[simp] theorem wp_0 {m : Sd} : wipeD m [] = m := rfl
@[simp] theorem wp_1 {m : Sd} {v : Nat} {vs : List Nat} : wipeD m (v :: vs) = (wipeD m vs).set v none := rfl
@[simp] theorem add_i {a b : Int} : addD (.int a) (.int b) = some (.int (a + b)) := rfl
@[simp] theorem sub_i {a b : Int} : subD (.int a) (.int b) = some (.int (a - b)) := rfl
theorem mul_i {a b : Int} (ha : sm a = true) (hb : sm b = true) : mulD (.int a) (.int b) = some (.int (a * b)) := by unfold mulD; simp [ha, hb]
theorem div_i {a b : Int} (h0 : 0 < b) (hb : sm b = true) : fdivD (.int a) (.int b) = some (.int (a / b)) := by unfold fdivD; simp [h0, hb]
theorem mod_i {a b : Int} (h0 : 0 < b) : modD (.int a) (.int b) = some (.int (a % b)) := by unfold modD; simp [h0]
theorem pow_i {a b : Int} (h1 : 0 ≤ b) (h2 : b ≤ 1000) (h3 : -(2 ^ 62) < a) (h4 : a < 2 ^ 62) : powD (.int a) (.int b) = some (.int (a ^ b.toNat)) := by unfold powD; simp only [h1, h2, h3, h4, decide_true, Bool.and_self, if_true]
@[simp] theorem neg_i {a : Int} : negD (.int a) = some (.int (-a)) := rfl
@[simp] theorem lt_i {a b : Int} : ltD (.int a) (.int b) = some (.bl (decide (a < b))) := rfl
@[simp] theorem le_i {a b : Int} : leD (.int a) (.int b) = some (.bl (decide (a ≤ b))) := rfl
@[simp] theorem gt_i {a b : Int} : gtD (.int a) (.int b) = some (.bl (decide (b < a))) := rfl
@[simp] theorem ge_i {a b : Int} : geD (.int a) (.int b) = some (.bl (decide (b ≤ a))) := rfl
@[simp] theorem eq_i {a b : Int} : eqD (.int a) (.int b) = some (.bl (decide (a = b))) := rfl
@[simp] theorem ne_i {a b : Int} : neD (.int a) (.int b) = some (.bl (!decide (a = b))) := rfl
@[simp] theorem eq_s {a b : Str} : eqD (.str a) (.str b) = some (.bl (decide (a = b))) := rfl
@[simp] theorem ne_s {a b : Str} : neD (.str a) (.str b) = some (.bl (!decide (a = b))) := rfl
@[simp] theorem eq_b {a b : Bool} : eqD (.bl a) (.bl b) = some (.bl (decide (a = b))) := rfl
@[simp] theorem ne_b {a b : Bool} : neD (.bl a) (.bl b) = some (.bl (!decide (a = b))) := rfl
@[simp] theorem len_l {xs : List D} : lenB [.lst xs] = some (.int xs.length) := rfl
@[simp] theorem len_t {xs : List D} : lenB [.tup xs] = some (.int xs.length) := rfl
@[simp] theorem tup_l {xs : List D} : tupleB [.lst xs] = some (.tup xs) := rfl
@[simp] theorem tup_t {xs : List D} : tupleB [.tup xs] = some (.tup xs) := rfl
@[simp] theorem lst_l {xs : List D} : listB [.lst xs] = some (.lst xs) := rfl
@[simp] theorem lst_t {xs : List D} : listB [.tup xs] = some (.lst xs) := rfl
@[simp] theorem rev_t {xs : List D} : revD (.tup xs) = some (.tup xs.reverse) := rfl
@[simp] theorem rev_l {xs : List D} : revD (.lst xs) = some (.lst xs.reverse) := rfl
@[simp] theorem rev_L {xs : List D} : revL (.lst xs) = some (.lst xs.reverse) := rfl
@[simp] theorem max_i {a b : Int} : maxB [.int a, .int b] = some (.int (if b > a then b else a)) := rfl
@[simp] theorem min_i {a b : Int} : minB [.int a, .int b] = some (.int (if b < a then b else a)) := rfl
theorem atI_nat {α : Type} {xs : List α} {i : Nat} {x : α} (h : xs[i]? = some x) : atI xs ((i : Nat) : Int) = some x := by
  obtain ⟨hl, _⟩ := List.getElem?_eq_some_iff.mp h
  unfold atI ixN
  rw [if_pos (Int.natCast_nonneg _), if_pos (by omega), Option.bind_some, Int.toNat_natCast, h]
theorem idx_t {xs : List D} {i : Nat} {x : D} (h : xs[i]? = some x) : idxD (.tup xs) (.int ((i : Nat) : Int)) = some x := atI_nat h
theorem idx_l {xs : List D} {i : Nat} {x : D} (h : xs[i]? = some x) : idxD (.lst xs) (.int ((i : Nat) : Int)) = some x := atI_nat h
theorem sm_of {i : Int} (h1 : -(10 ^ 59) ≤ i) (h2 : i ≤ 10 ^ 59) : sm i = true := sm_iff.mpr ⟨by omega, by omega⟩
@[simp] theorem seq_l {xs : List D} : seqL (.lst xs) = some xs := rfl
@[simp] theorem seq_t {xs : List D} : seqL (.tup xs) = some xs := rfl
@[simp] theorem isq_l {xs : List D} : isSq (.lst xs) = True := rfl
@[simp] theorem isq_t {xs : List D} : isSq (.tup xs) = True := rfl
@[simp] theorem zip_l {xs ys : List D} : zipO (.lst xs) (.lst ys) = some (zipD xs ys) := rfl
@[simp] theorem zip_t {xs ys : List D} : zipO (.tup xs) (.tup ys) = some (zipD xs ys) := rfl
@[simp] theorem addI_i {a b : Int} : addI (.int a) (.int b) = some (.int (a + b)) := rfl
@[simp] theorem subI_i {a b : Int} : subI (.int a) (.int b) = some (.int (a - b)) := rfl
/-! repr -/
mutual
/-- plain data of small ints -/
def shw : D → Bool
  | .non => true
  | .bl _ => true
  | .int i => sm i
  | .tup xs => shwL xs
  | .lst xs => shwL xs
  | _ => false
def shwL : List D → Bool
  | [] => true
  | x :: xs => shw x && shwL xs
end
mutual
/-- more than the length of its repr -/
def szD : D → Nat
  | .tup xs => szL xs + 4
  | .lst xs => szL xs + 4
  | _ => 70
def szL : List D → Nat
  | [] => 0
  | x :: xs => szD x + 2 + szL xs
end
mutual
def dpD : D → Nat
  | .tup xs => dpL xs + 1
  | .lst xs => dpL xs + 1
  | _ => 0
def dpL : List D → Nat
  | [] => 0
  | x :: xs => max (dpD x) (dpL xs)
end
theorem int_len {i : Int} (h : sm i = true) : (PyData.shown (.int i)).length ≤ 70 := by
  have h := sm_iff.mp h
  have e := int_text_length_le10 (a := i) (k := 60) (by decide) (by omega)
  show (Str.ofString (toString i)).length ≤ 70
  rw [PySem.ofString_length]
  exact Nat.le_trans e (by decide)
mutual
theorem py_ok : ∀ (d : D), shw d = true → ∃ p, py d = some p ∧ p.showable = true ∧ p.depth = dpD d ∧ p.shown.length ≤ szD d
  | .non, _ => ⟨_, rfl, rfl, rfl, by decide⟩
  | .bl b, _ => ⟨_, rfl, rfl, rfl, by cases b <;> decide⟩
  | .int i, h => ⟨_, rfl, by
      have h' : sm i = true := h
      show decide _ = true
      rw [decide_eq_true_eq]
      exact Nat.lt_of_lt_of_le (sm_log h') (by decide), rfl, int_len h⟩
  | .tup xs, h => by
    obtain ⟨ps, h1, h2, h3, h4, h5⟩ := pyL_ok xs h
    refine ⟨.tuple ps, by unfold py; rw [h1], h2, by show PyData.depthAll ps + 1 = _; rw [h3]; rfl, ?_⟩
    have := tupleText_len_le (PyData.shownAll ps)
    show (tupleText (PyData.shownAll ps)).length ≤ szL xs + 4
    omega
  | .lst xs, h => by
    obtain ⟨ps, h1, h2, h3, h4, h5⟩ := pyL_ok xs h
    refine ⟨.list ps, by unfold py; rw [h1], h2, by show PyData.depthAll ps + 1 = _; rw [h3]; rfl, ?_⟩
    have := listText_len_le (PyData.shownAll ps)
    show (listText (PyData.shownAll ps)).length ≤ szL xs + 4
    omega
  | .str _, h => by cases h
  | .dct _, h => by cases h
  | .jar, h => by cases h
  | .obj _, h => by cases h
  | .ins _ _, h => by cases h
theorem pyL_ok : ∀ (ds : List D), shwL ds = true → ∃ ps, pyL ds = some ps ∧ PyData.showableAll ps = true ∧ PyData.depthAll ps = dpL ds ∧ (PyData.shownAll ps).length = ds.length ∧ ((PyData.shownAll ps).map (·.length)).sum + 2 * (PyData.shownAll ps).length ≤ szL ds
  | [], _ => ⟨[], rfl, rfl, rfl, rfl, by decide⟩
  | d :: ds, h => by
    unfold shwL at h
    rw [Bool.and_eq_true] at h
    obtain ⟨p, a1, a2, a3, a4⟩ := py_ok d h.1
    obtain ⟨ps, h1, h2, h3, h4, h5⟩ := pyL_ok ds h.2
    refine ⟨p :: ps, by unfold pyL; rw [a1, h1], by unfold PyData.showableAll; rw [a2, h2]; rfl, by unfold PyData.depthAll dpL; rw [a3, h3], by unfold PyData.shownAll; simp [h4], ?_⟩
    unfold PyData.shownAll szL
    simp only [List.map_cons, List.sum_cons, List.length_cons]
    omega
end
theorem repr_ok {d : D} (h : shw d = true) (hd : dpD d ≤ 60) (hs : szD d ≤ 1000000) : ∃ x, reprD d = some x := by
  obtain ⟨p, h1, h2, h3, h4⟩ := py_ok d h
  refine ⟨p.shown, ?_⟩
  unfold reprD
  rw [h1]
  have e1 : p.depth ≤ 60 := by omega
  have e2 : p.shown.length ≤ LINE := by have : LINE = 1000000 := rfl; omega
  simp only [h2, e1, e2, decide_true, Bool.and_self, if_true]
theorem reprB_ok {d : D} {P : D → Prop} (h : shw d = true) (hd : dpD d ≤ 60) (hs : szD d ≤ 1000000) (q : ∀ x, reprD d = some x → P (.str x)) : ∃ z, reprB [d] = some z ∧ P z := by
  obtain ⟨x, e⟩ := repr_ok h hd hs
  exact ⟨.str x, by show (match reprD d with | some x => some (D.str x) | none => none) = _; rw [e], q x e⟩
end Mp

/-! NR: more rules: xs[-2::-1] of an owned list. -/
namespace Mp
open PySem PySem.Spec L2
open PyProof.Rows hiding St
variable {J : Type}
theorem rev2_bounds (n : Nat) : sliceBounds (some (-2)) none (some (-1)) n = (((n - 1 : Nat) : Int) - 1, -1, -1) := by
  have e : sliceBounds (some (-2)) none (some (-1)) n = (max (-1) (min ((-2 : Int) + n) ((n : Int) - 1)), -1, -1) := by
    unfold sliceBounds
    simp
  rw [e]
  congr 1
  omega
theorem rev2_pick (items : Array Value) : slicePick items (some (-2)) none (some (-1)) = items.toList.dropLast.reverse.toArray := by
  unfold slicePick
  rw [rev2_bounds]
  show ((sliceRange (((items.size - 1 : Nat) : Int) - 1) (-1) (-1)).filterMap (items[·]?)).toArray = _
  rw [PySem.W.krv_sliceRange, PySem.W.krv_range, List.filterMap_reverse]
  congr 2
  rw [List.dropLast_eq_take, Array.length_toList]
  have h := pick_run items 0 (items.size - 1)
  have e : (List.range (items.size - 1)).map (0 + ·) = List.range (items.size - 1) := by
    rw [show ((0 + ·) : Nat → Nat) = id from funext fun k => Nat.zero_add k, List.map_id]
  rw [e, List.drop_zero] at h
  exact h
section
variable {S : Js J} {B : Bs} {M : Nat → Bool} {W : WX} {X : Cx} {e a b : Expr} {pos : Pos} {fa : Ev J} {x : Str}
def tRev2 (K : PySem.W.Frag) (te : TE) : TE := fun σ H Q => te σ H fun x H1 => ∃ a xs, x = .ref a ∧ SqL K H1 a xs ∧ ∀ p, H1 p = none → Q (.ref p) (upd H1 p (.lst xs.dropLast.reverse))
theorem pe_rev2 {te : TE} {k k2 : Nat} {p1 p2 p3 p4 p5 : Pos} (he : PE X e te) : PE X (.Subscript e (.Slice (some (.UnaryOp .USub (.Constant (.int 2) k2 p4) p5)) none (some (.UnaryOp .USub (.Constant (.int 1) k p1) p2)) p3) pos) (tRev2 X.K te) := by
  refine ⟨fun pins s σ H Q I h => ?_⟩
  refine Subscript_ (thn (he.run pins s σ H _ I h) fun v s1 ⟨x, H1, I1, r1, q1⟩ => ?_)
  have hst : PO X (some (.UnaryOp .USub (.Constant (.int 1) k p1) p2)) (tPart (tUn (rU fun i => .int (-i)) (tC (.int 1)))) := po_some (pe_un un_neg pe_int)
  have hlo : PO X (some (.UnaryOp .USub (.Constant (.int 2) k2 p4) p5)) (tPart (tUn (rU fun i => .int (-i)) (tC (.int 2)))) := po_some (pe_un un_neg pe_int)
  refine wpAny_Slice (thn (hlo.run pins s1 σ H1 (fun o H2 => o = some (-2) ∧ H2 = H1) I1 ⟨2, rfl, -2, rfl, rfl, rfl⟩) fun vl s2 ⟨l, H2, I2, pl, el, e2⟩ => ?_)
  subst el e2
  refine thn (po_none.run pins s2 σ H2 (fun o H3 => o = none ∧ H3 = H2) I2 ⟨rfl, rfl⟩) fun vu s3 ⟨u, H3, I3, pu, eu, e3⟩ => ?_
  subst eu e3
  refine thn (hst.run pins s3 σ H3 (fun o H4 => o = some (-1) ∧ H4 = H3) I3 ⟨1, rfl, -1, rfl, rfl, rfl⟩) fun vs s4 ⟨o, H4, I4, ps, eo, e4⟩ => ?_
  subst eo e4
  have I5 : Inv X pins σ H4 { s4 with heap := s4.heap.push { cls := .type "slice", data := .fields #[vl, vu, vs] } } := I4.kept (t' := s4.toks) fun b ob q => Heap.get?_push_of_some _ q
  obtain ⟨a, xs, ex, hx, q⟩ := q1
  subst ex
  cases r1
  obtain ⟨its, r, ht, hz⟩ := I5.list hx
  have hlen := r.length
  show wpAny (model X.prog X.w) X.A (subscriptTail e (.Slice (some (.UnaryOp .USub (.Constant (.int 2) k2 p4) p5)) none (some (.UnaryOp .USub (.Constant (.int 1) k p1) p2)) p3) (.ref a) (.ref s4.heap.objs.size)) (EP X pins σ Q) X.xe { s4 with heap := s4.heap.push { cls := .type "slice", data := .fields #[vl, vu, vs] } }
  refine tail_any (ops := [.ref a, .ref s4.heap.objs.size]) ht.isList.typeIs (PySem.slot_list_getitem.lookup) ?_ (by with_unfolding_all rfl)
  refine wpAny_getItem_list_slice ht.isList (Heap.IsSliceOf.new _ vl vu vs) pl pu ps (by decide) ?_ (by rw [List.size_toArray]; omega)
  rw [rev2_pick]
  have rr : Vals xs.dropLast its.dropLast := by
    rw [List.dropLast_eq_take, List.dropLast_eq_take, hlen]
    exact r.take _
  refine ⟨.ref _, _, I5.laid (t' := s4.toks) (o := .lst xs.dropLast.reverse) (fun b ob q => Heap.get?_push_of_some _ q) (Nat.le_refl _) ?_, rfl, q _ (I5.hok.fresh (Nat.le_refl _))⟩
  exact ⟨by rw [List.length_reverse, List.length_dropLast]; omega, _, 0, rr.reverse, Heap.get?_push_size _ rfl⟩
def rev2L : D → Option D
  | .lst xs => some (.lst xs.dropLast.reverse)
  | _ => none
/-- xs[-2::-1] of an owned list: a new list -/
theorem rv2O {i : Nat} {np : Pos} {k k2 : Nat} {p1 p2 p3 p4 p5 : Pos} (hx : MtN X i x := by exact mtN _) (hM : M i = true := by rfl) :
    PE X (.Subscript (.Name x np) (.Slice (some (.UnaryOp .USub (.Constant (.int 2) k2 p4) p5)) none (some (.UnaryOp .USub (.Constant (.int 1) k p1) p2)) p3) pos) (rdE S B M W .fresh (eUn rev2L (eVar i))) :=
  PE.imp (pe_rev2 hx.pe) fun R H Q ⟨g, m, j, P, E, ok, ⟨d0, h0, z, hz, pz⟩, q, xo⟩ => by
    obtain ⟨a, hr, ho⟩ := ok.s.ow i _ h0 hM
    obtain ⟨hF, ⟨ds, vs, rfl, e, t⟩ | ⟨kds, kvs, rfl, _⟩⟩ := ho
    · cases hz
      refine ⟨_, hr, a, vs, rfl, .of (ok.b.gh _ _ e), fun p hp => ?_⟩
      obtain ⟨n1, n2, n3, n4⟩ := ok.b.hn hp
      exact q _ _ (g.see p (.lst vs.dropLast.reverse)) _ _ pz (Le.see n2) ⟨ok.b.see _ hp, ok.s.le (Le.see n2)⟩ ⟨p, rfl, n2, n1, .inl ⟨_, _, rfl, upd_same, t.dropLast.reverse⟩⟩
    · cases hz
end
@[simp] theorem rev2_l {xs : List D} : rev2L (.lst xs) = some (.lst xs.dropLast.reverse) := rfl
end Mp

/-! NS: defs with a star parameter. -/
namespace Mp
open PySem PySem.Spec L2
open PyProof.Rows hiding St
variable {J : Type}
/-- an exception that is told from a state with a new tuple is told from the state ahead of it -/
def CXNw (CX : CXT) : Prop := ∀ (outer : List Env) (s : Shared) (H : Hp) (h2 : Heap) (p : Addr) (rest : HO) (E : XK) (e : Value) (s' : Shared), (∀ b o, s.heap.get? b = some o → h2.get? b = some o) → s.heap.objs.size ≤ p → H p = none →
  CX outer (upd H p rest) { s with heap := h2 } E e s' → CX outer H s E e s'
theorem cxNew {P : Program} {w : World} : CXNw (L2.CX P w) := fun outer s H h2 p rest E e s' kp hp hn h => by
  obtain ⟨a, B, H', cls, d, rfl, fl, hok, ub, na, os, ag, hE⟩ := h
  have ne : ∀ b o, s.heap.get? b = some o → b ≠ p := fun b o e z => by
    have h1 : b < s.heap.objs.size := Heap.lt_size e
    exact absurd h1 (by rw [z]; exact Nat.not_lt.mpr hp)
  have nh : ∀ b o, H b = some o → b ≠ p := fun b o e z => by rw [z, hn] at e; cases e
  refine ⟨a, B, H', cls, d, rfl, fl, hok, ⟨fun b o e1 e2 e3 => ub.keep b o (kp b o e1) (by rw [upd_ne (ne b o e1)]; exact e2) e3, fun b o e1 e2 => ub.slot b o (kp b o e1) e2, fun b o e1 e2 => ub.free b o (kp b o e1) (by rw [upd_ne (ne b o e1)]; exact e2),
    fun b o e1 e2 => ub.there b o (kp b o e1) e2, fun b xs e1 => ub.tups b xs (by rw [upd_ne (nh b _ e1)]; exact e1), fun b o xs e1 => ub.frzs b o xs (by rw [upd_ne (nh b _ e1)]; exact e1), fun b ps e1 => ub.tbls b ps (by rw [upd_ne (nh b _ e1)]; exact e1)⟩, na, os, ag, hE⟩
/-- a call's promise, the arguments by position -/
def FnV (P : Program) (w : World) (K : PySem.W.Frag) (mg : Str → Option Value) (base : Heap) (CX : CXT) (k : Nat) (f : Addr) (sp : Sp) : Prop :=
  ∀ (A : Around) (outer : List Env) (s : Shared) (H : Hp) (us : List Value) (vs : List V) (Q : VK) (E : XK), Room k A → A.guards = some [] → Env0 P w K mg base A outer s H → Vals vs us → sp vs H Q E → codeAny (model P w) A (.call (.ref f) ⟨us, []⟩) (CR CX outer P w H s Q E) s
theorem vals_split : ∀ {v1 v2 : List V} {us : List Value}, Vals (v1 ++ v2) us → ∃ u1 u2, us = u1 ++ u2 ∧ Vals v1 u1 ∧ Vals v2 u2
  | [], v2, us, h => ⟨[], us, rfl, .nil, h⟩
  | v :: v1, v2, us, h => by
    cases h with
    | cons a b =>
      obtain ⟨u1, u2, rfl, r1, r2⟩ := vals_split b
      exact ⟨_ :: u1, u2, rfl, .cons a r1, r2⟩
/-- a def f(a, .., *r), by its body -/
theorem fnV_of {CX : CXT} {P : Program} {w : World} {K : PySem.W.Frag} {mg : Str → Option Value} {base : Heap} {k : Nat} {f : Addr} {name qual : Str} {params : Arguments} {body : List Stmt} {scope : Scope} {dV kV doc pm cdv ct oc : Value} {an od : Option Addr}
    {osl : Array (Option Value)} {N pas : List Str} {pv : Str} {n nmax : Nat} {sp : Sp} (lk : K.lookup f = some ⟨oc, od, .func (PySem.W.fnOf name qual params body scope dV kV doc pm an cdv ct), osl⟩) (hcd : PySem.W.codeIn K cdv qual = true) (S : FnScope N (pas ++ [pv]) scope) (hn0 : pas.length = n)
    (hz : nmax ≤ sizeLine) (hb : ∀ (us rest : List Value), us.length = n → rest.length ≤ nmax → bindArgs (PySem.W.fnOf name qual params body scope dV kV doc pm an cdv ct) ⟨us ++ rest, []⟩ = (newTuple rest >>= fun t => pure ((pas ++ [pv]).zip (us ++ [t]))))
    (hCX : CXNw CX)
    (hbody : ∀ (A : Around) (outer : List Env) (s : Shared) (H : Hp) (vs : List V) (Q : VK) (E : XK), Room k (A.deeper (envOfC qual scope s.heap.objs.size f cdv)) → (A.deeper (envOfC qual scope s.heap.objs.size f cdv)).guards = some [] → sp vs H Q E →
      ∃ t, PSs (cxOf CX P w K mg base N qual scope f cdv A outer s H E) body t ∧ t { nx := fun _ H' => Q .non H', rt := Q } (start N vs) H) :
    FnV P w K mg base CX (k + 1) f (fun vs H Q E => ∃ v1 rest, vs = v1 ++ rest ∧ v1.length = n ∧ rest.length ≤ nmax ∧ ∀ (p : Addr) (ob : Obj), H p = none → ob.dict = none → sp (v1 ++ [.ref p]) (upd H p (.frz ob (.tup rest))) Q E) := by
  intro A outer s H us vs Q E hr hgd e0 r hsp
  obtain ⟨v1, rest, ev, hl1, hl, hq⟩ := hsp
  subst ev
  obtain ⟨u, ur, rfl, rv, rr⟩ := vals_split r
  have hu1 : u.length = n := by rw [← rv.length]; exact hl1
  have hl' : ur.length ≤ nmax := by rw [← rr.length]; exact hl
  have KX : K.In s.heap := e0.mod.kin.keeps fun b o e => (e0.bs b o e).1
  have hn : H s.heap.objs.size = none := e0.hok.fresh (Nat.le_refl _)
  have hp := hq s.heap.objs.size ({ cls := .type "tuple", data := .seq ur.toArray } : Obj) hn rfl
  have kp : ∀ b o, s.heap.get? b = some o → (s.heap.push ({ cls := .type "tuple", data := .seq ur.toArray } : Obj)).get? b = some o := fun b o e => Heap.get?_push_of_some _ e
  have new : ObjOk P w (upd H s.heap.objs.size (.frz ({ cls := .type "tuple", data := .seq ur.toArray } : Obj) (.tup rest))) (s.heap.push ({ cls := .type "tuple", data := .seq ur.toArray } : Obj)) s.heap.objs.size (.frz ({ cls := .type "tuple", data := .seq ur.toArray } : Obj) (.tup rest)) :=
    ⟨Heap.get?_push_size _ rfl, Nat.le_trans hl hz, ur, rr, ⟨_, Heap.get?_push_size _ rfl, rfl, _, rfl⟩⟩
  have hok2 := e0.hok.laid kp (Nat.le_refl _) new
  have un : Un (frs outer) [] H (upd H s.heap.objs.size (.frz ({ cls := .type "tuple", data := .seq ur.toArray } : Obj) (.tup rest))) s.heap (s.heap.push ({ cls := .type "tuple", data := .seq ur.toArray } : Obj)) := Un.laid kp (Nat.le_refl _) hn
  have e2 : Env0 P w K mg base A outer { s with heap := s.heap.push ({ cls := .type "tuple", data := .seq ur.toArray } : Obj) } (upd H s.heap.objs.size (.frz ({ cls := .type "tuple", data := .seq ur.toArray } : Obj) (.tup rest))) := by
    refine ⟨e0.frames, e0.mod, fun b o e => ⟨kp b o (e0.bs b o e).1, ?_⟩, ?_, Heap.FunFrames.of_keeps (fun b o e _ => ⟨o, kp b o e, rfl⟩) e0.funs, fun b hb' => ?_, hok2, e0.bare⟩
    · rw [upd_ne (Nat.ne_of_lt (Heap.lt_size (e0.bs b o e).1))]
      exact (e0.bs b o e).2
    · show base.objs.size ≤ (s.heap.push _).objs.size
      rw [Heap.size_push]
      exact Nat.le_succ_of_le e0.bsz
    · obtain ⟨_, o, ho, _⟩ := e0.funs.mem hb'
      rw [upd_ne (Nat.ne_of_lt (Heap.lt_size ho))]
      exact e0.frf b hb'
  have lim : (s.heap.push ({ cls := .type "tuple", data := .seq ur.toArray } : Obj)).NoLimit := e0.mod.nolimit.keeps fun b o e => (e2.bs b o e).1
  have hkind : ∀ y ∈ (pas ++ [pv]).zip (u ++ [Value.ref s.heap.objs.size]), scope.names.lookup y.1 = some .local ∨
      (scope.names.lookup y.1 = some .cell ∧ ((cellsFrom ((s.heap.push ({ cls := .type "tuple", data := .seq ur.toArray } : Obj)).objs.size + 1) scope.names []).lookup y.1).isSome = true) := fun y hy => by
    rcases S.par y.1 (List.of_mem_zip hy).1 with q | q
    · exact .inl q
    · exact .inr ⟨q, PySem.W.cellsFrom_some _ _ _ (.inl q)⟩
  refine codeAny_call_function hr.depth (KX _ _ lk) rfl S.co S.gen rfl (PySem.W.codeRec_of KX hcd) ?_
  rw [hb u ur hu1 hl']
  refine wpAny_bind (wpAny_newTuple (wpAny_pure ?_) (Nat.le_trans hl' hz))
  refine wpAny_newFunctionEnv_cells (s := { s with heap := s.heap.push ({ cls := .type "tuple", data := .seq ur.toArray } : Obj) }) S.kind hkind fun env he s1 x => ?_
  subst he
  refine ⟨lim.keeps x.toInCall.keep, codeAny_func ?_⟩
  obtain ⟨t, ht, hq'⟩ := hbody A outer { s with heap := s.heap.push ({ cls := .type "tuple", data := .seq ur.toArray } : Obj) } (upd H s.heap.objs.size (.frz ({ cls := .type "tuple", data := .seq ur.toArray } : Obj) (.tup rest))) (v1 ++ [.ref s.heap.objs.size]) Q E (hr.deeper _) hgd hp
  have r2 : Vals (v1 ++ [V.ref s.heap.objs.size]) (u ++ [Value.ref s.heap.objs.size]) := rv.append (.cons rfl .nil)
  have I : Inv (cxOf CX P w K mg base N qual scope f cdv A outer { s with heap := s.heap.push ({ cls := .type "tuple", data := .seq ur.toArray } : Obj) } (upd H s.heap.objs.size (.frz ({ cls := .type "tuple", data := .seq ur.toArray } : Obj) (.tup rest))) E) [] (start N (v1 ++ [.ref s.heap.objs.size])) (upd H s.heap.objs.size (.frz ({ cls := .type "tuple", data := .seq ur.toArray } : Obj) (.tup rest))) s1 :=
    inv_start S hr.hd e2 (by simp [hl1, hn0]) r2 x
  refine wpAny_mono (ht.run [] s1 _ _ _ I hq') (fun fl s' hs => ?_) fun e s' hs => ?_
  · have fin : ∀ {σ' : St} {H' : Hp} {v' : V} {u' : Value}, Inv (cxOf CX P w K mg base N qual scope f cdv A outer { s with heap := s.heap.push ({ cls := .type "tuple", data := .seq ur.toArray } : Obj) } (upd H s.heap.objs.size (.frz ({ cls := .type "tuple", data := .seq ur.toArray } : Obj) (.tup rest))) E) [] σ' H' s' → RelV v' u' → Q v' H' →
        CE outer P w H s Q u' s' := fun {σ' H' v' u'} J rv' q => ⟨v', H', J.os, J.bare, un.trans J.base, J.hok, rv', q⟩
    cases fl with
    | ret u' =>
      obtain ⟨v', σ', H', J, rv', q⟩ := hs
      exact fin J rv' q
    | next =>
      obtain ⟨σ', H', J, q⟩ := hs
      exact fin (v' := V.non) (u' := Value.none) J rfl q
    | brk =>
      obtain ⟨_, _, _, q⟩ := hs
      exact False.elim q
    | cont =>
      obtain ⟨_, _, _, q⟩ := hs
      exact False.elim q
  · exact wpAny_mono hs (fun _ s'' z => hCX outer s H _ _ _ E e s'' kp (Nat.le_refl _) hn z) fun e' s'' z => hCX outer s H _ _ _ E e' s'' kp (Nat.le_refl _) hn z
/-! on data -/
def spV (S : Js J) (φ : Fv J) : Sp := fun vs H Q E => ∃ F A j ds P Ep, Same F H ∧ (∀ b o, F b = some o → ¬ A b) ∧ S.rep j F A H ∧ (∃ o u, H sysModules = some (.frz o u)) ∧ RpL S F ds vs ∧ φ ds j P Ep ∧
  (∀ d j' F' A' H' v, P d j' → FPost S F A H F' A' H' j' → Rp S F' d v → Q v H') ∧ (∀ e j' F' A' H' cls dx, Ep e j' → FPost S F A H F' A' H' j' → ExR S F' e cls dx → E cls dx H')
/-- n parameters, then at most x more -/
def runV (k n x : Nat) (f : Sv J) (ds : List D) (j : J) (P : D → J → Prop) (E : Ex → J → Prop) : Prop := n ≤ ds.length ∧ ds.length ≤ n + x ∧ runF k (n + 1) f (ds.take n ++ [.tup (ds.drop n)]) j P E
instance {k n x : Nat} {f : Sv J} [h : MoS f] : MoF (runV k n x f) := ⟨fun ⟨l, l2, p⟩ q y => ⟨l, l2, MoF.mo p q y⟩⟩
theorem RpL.app {S : Js J} {F : Hp} : ∀ {ds es : List D} {vs us : List V}, RpL S F ds vs → RpL S F es us → RpL S F (ds ++ es) (vs ++ us)
  | _, _, _, _, .nil, h => h
  | _, _, _, _, .cons a t, h => .cons a (RpL.app t h)
section
variable {P : Program} {w : World} {K : PySem.W.Frag} {mg : Str → Option Value} {base : Heap} {S : Js J}
theorem fnV_D {x qual : Str} {st : Stmt} {f : Addr} {fd : FuncData} {N pas : List Str} {pv : Str} {n nmax k : Nat} {M : Nat → Bool} {fs : Sv J} (F : L2.Fun K x qual st f fd) (Sc : FnScope N (pas ++ [pv]) (defScope st)) (hn : pas.length = n) (hM : ∀ i, i < n + 1 → M i = false) (hz : nmax ≤ sizeLine)
    (hb : ∀ (us rest : List Value), us.length = n → rest.length ≤ nmax → bindArgs fd ⟨us ++ rest, []⟩ = (newTuple rest >>= fun t => pure ((pas ++ [pv]).zip (us ++ [t]))))
    (hbody : ∀ (cdv : Value) (A : Around) (outer : List Env) (s : Shared) (H : Hp) (E : XK) (B : Bs), Room k (A.deeper (envOfC qual (defScope st) s.heap.objs.size f cdv)) → (A.deeper (envOfC qual (defScope st) s.heap.objs.size f cdv)).guards = some [] →
      PSs (cxE P w K mg base N qual (defScope st) f cdv A outer s H E) (defBody st) (rdS S B M (WD E) fs)) : FnV P w K mg base (L2.CX P w) (k + 1) f (spV S (runV N.length n nmax fs)) := by
  obtain ⟨oc, od, kV, doc, pm, an, cdv, ct, osl, rfl, lk, hcd⟩ := F.ex
  have G := fnV_of (sp := spF S (n + 1) (runF N.length (n + 1) fs)) (k := k) (CX := L2.CX P w) (P := P) (w := w) (mg := mg) (base := base) lk hcd Sc hn hz hb cxNew fun A outer s H vs Q E hr hgd h => by
    obtain ⟨F0, A0, j, ds, P, Ep, fh, fa, jr, sm, rp, hl, hf, q, xx⟩ := h
    exact ⟨_, hbody cdv A outer s H E ⟨F0, H, A0⟩ hr hgd, run_end fh fa jr sm hM rp hf q xx⟩
  refine fun A outer s H us vs Q E hr hgd e0 r h => G A outer s H us vs Q E hr hgd e0 r ?_
  obtain ⟨F0, A0, j, ds, P, Ep, fh, fa, jr, ⟨o, u, sm⟩, rp, ⟨l1, l2, hf⟩, q, xx⟩ := h
  have hlen := rp.length
  refine ⟨vs.take n, vs.drop n, (List.take_append_drop _ _).symm, by rw [List.length_take]; omega, by rw [List.length_drop]; omega, fun p ob hp hob => ?_⟩
  have keep : ∀ b o, H b = some o → upd H p (.frz ob (.tup (vs.drop n))) b = some o := fun b o e => by
    rw [upd_ne fun z => by rw [z, hp] at e; cases e]; exact e
  have keepF : ∀ b o, F0 b = some o → upd F0 p (.frz ob (.tup (vs.drop n))) b = some o := fun b o e => by
    rw [upd_ne fun z => by rw [z] at e; rw [fh p o e] at hp; cases hp]; exact e
  have back : ∀ b, upd H p (.frz ob (.tup (vs.drop n))) b = none → H b = none := fun b e => by
    by_cases z : b = p
    · rw [z]; exact hp
    · rwa [upd_ne z] at e
  have post : ∀ {F' A' H' j'}, FPost S (upd F0 p (.frz ob (.tup (vs.drop n)))) A0 (upd H p (.frz ob (.tup (vs.drop n)))) F' A' H' j' → FPost S F0 A0 H F' A' H' j' := fun {F' A' H' j'} pp =>
    ⟨fun b o e => pp.sub b o (keepF b o e), pp.fh, pp.fa, pp.jr, fun b o e => pp.keep b o (keep b o e), fun b o e => by
      rcases pp.ff b o e with z | z
      · by_cases c : b = p
        · exact .inr (by rw [c]; exact hp)
        · rw [upd_ne c] at z; exact .inl z
      · exact .inr (back b z), fun b e => by
      rcases pp.af b e with z | z
      · exact .inl z
      · exact .inr (back b z), fun b e => back b (pp.dm b e), pp.sm⟩
  refine ⟨upd F0 p (.frz ob (.tup (vs.drop n))), A0, j, ds.take n ++ [.tup (ds.drop n)], P, Ep, fun b o e => ?_, fun b o e z => ?_, S.frame jr keepF fun b hb => ?_, ⟨o, u, keep _ _ sm⟩, ?_, hf.1, hf, fun d j' F' A' H' v h1 h2 h3 => q d j' F' A' H' v h1 (post h2) h3, fun e j' F' A' H' cls dx h1 h2 h3 => xx e j' F' A' H' cls dx h1 (post h2) h3⟩
  · by_cases c : b = p
    · rw [c, upd_same] at e ⊢; exact e
    · rw [upd_ne c] at e ⊢; exact fh b o e
  · by_cases c : b = p
    · rw [c] at z; exact S.dom jr z hp
    · rw [upd_ne c] at e; exact fa b o e z
  · exact upd_ne fun z => S.dom jr hb (by rw [z]; exact hp)
  · exact RpL.app (RpL.take n (RpL.mono keepF rp)) (.cons (.tup (.inl ⟨ob, upd_same, hob⟩) (RpL.drop n (RpL.mono keepF rp))) .nil)
/-- a star def that may be called -/
structure CalV (S : Js J) (P : Program) (w : World) (mg : Str → Option Value) (base : Heap) (k : Nat) (x : Str) (φ : Fv J) : Prop where
  ex : ∃ fn, FnV P w S.K mg base (L2.CX P w) k fn (spV S φ) ∧ mg x = some (.ref fn) ∧ PySem.W.keepIn S.K (.ref fn) = true
end
section
variable {S : Js J} {B : Bs} {M : Nat → Bool} {W : WX} {X : Cx} {e : Expr} {es : List Expr} {pos p : Pos} {fr : Av J} {x : Str} {φ : Fv J} {k : Nat} {fn : Addr}
theorem run_fnVS {sp : Sp} {E : St → XK} {CX : CXT} {pins : List (Addr × Obj)} {σ : St} {H : Hp} {s : Shared} {Q : VK} {us : List Value} {vs : List V} (F : FnV X.prog X.w X.K X.mg X.base CX k fn sp) (hr : Room k X.A) (hgd : X.A.guards = some []) (hx : PassesAt CX X σ (E σ))
    (I : Inv X pins σ H s) (r : Vals vs us) (h : sp vs H Q (E σ)) : wpAny (model X.prog X.w) X.A (call (.ref fn) us) (EP X pins σ Q) X.xe s := by
  refine wpAny_call (codeAny_mono (F X.A X.stack s H us vs Q (E σ) hr hgd I.env0 r h) fun r s' hq => ?_)
  cases r with
  | error e => exact hx pins H s e s' I hq
  | ok fl =>
    cases fl with
    | ret u => exact I.after hq
    | next => exact False.elim hq
    | brk => exact False.elim hq
    | cont => exact False.elim hq
theorem tCallV_rd {R : St} {H : Hp} {Q : VK} (h : rdE S B M W .clean (eCall φ fr) R H Q) : tCallS (spV S φ) (WE W) (rdA S B M W true fr) R H Q := by
  obtain ⟨g, m, j, P, E, ok, hf, q, xo⟩ := h
  refine ⟨g, m, j, _, E, ok, hf, fun xs j1 g1 vs H1 p1 l1 ok1 w1 => ?_, xo⟩
  refine ⟨g1.F, g1.A, j1, xs, P, _, ok1.b.fg.trans ok1.b.gh, fun b o e => ok1.b.ga b o (ok1.b.fg b o e), ok1.b.jr, ok1.b.sm, w1, p1, fun d j' F' A' H' v pd pp rv => ?_, fun e j' F' A' H' cls dx pe pp rv => ?_⟩
  · obtain ⟨l2, ok2⟩ := post_clean ok1.b pp
    exact q d j' _ v H' pd (l1.trans l2) ⟨ok2, ok1.s.le l2⟩ rv
  · obtain ⟨l2, ok2⟩ := post_clean ok1.b pp
    exact xo e m j' _ R H' cls dx pe (l1.trans l2).f ⟨ok2, ok1.s.le l2⟩ rv
theorem callV (hK : X.K = S.K) (tk : Takes X W) (C : CalV S X.prog X.w X.mg X.base k x φ) (hr : Room k X.A) (hgd : X.A.guards = some []) (ha : PA X (e :: es) (rdA S B M W true fr)) (hg : Gl X x := by rfl) (hdb : (x == ("__debug__" : Str)) = false := by decide)
    (he : starEach (e :: es) X.env = (false, eval e X.env) :: starEach es X.env := by rfl) (hpl : (backTo pos (starEach es X.env)).any (·.1) = false := by rfl) : PE X (.Call (.Name x p) (e :: es) [] pos) (rdE S B M W .clean (eCall φ fr)) := by
  obtain ⟨fn, F, h1, h2⟩ := C.ex
  refine PE.imp (t := tCallS (spV S φ) (WE W) (rdA S B M W true fr)) ⟨fun pins s σ H Q I h => ?_⟩ fun _ _ _ h => tCallV_rd h
  refine wpAny_Call_Name_kw (ld_glob I hg h1 ?_ hdb)
  refine PySem.W.callWith_K (h₀ := X.base) I.ok.mod.kin (hK ▸ h2) (thn (ha.run pos pins s σ H _ I h) fun us s1 ⟨vs, H1, I1, r, q⟩ => ⟨I1.kIn, ?_⟩) he hpl
  exact run_fnVS (hK ▸ F) hr hgd (passAt tk σ) I1 r q
theorem callV0 (hK : X.K = S.K) (tk : Takes X W) (C : CalV S X.prog X.w X.mg X.base k x φ) (hr : Room k X.A) (hgd : X.A.guards = some []) (hg : Gl X x := by rfl) (hdb : (x == ("__debug__" : Str)) = false := by decide) : PE X (.Call (.Name x p) [] [] pos) (rdE S B M W .clean (eCall φ aNil)) := by
  obtain ⟨fn, F, h1, h2⟩ := C.ex
  refine PE.imp (t := tCallS (spV S φ) (WE W) tNil) ⟨fun pins s σ H Q I h => ?_⟩ fun R H Q h => by
    have h2 := tCallV_rd h
    obtain ⟨g, m, j, P, E, ok, hf, q, xo⟩ := h2
    exact q _ _ g [] H hf (Le.refl g) ok .nil
  refine wpAny_Call_Name_kw (ld_glob I hg h1 ?_ hdb)
  exact PySem.W.callWith_K0 I.kIn (hK ▸ h2) (run_fnVS (us := []) (hK ▸ F) hr hgd (passAt tk σ) I .nil h)
end
/-! ### starred items -/
def seqT : D → Option (List D)
  | .lst xs => some xs
  | .tup xs => some xs
  | _ => none
def aStar (fa : Ev J) (fr : Av J) (m : Sd) (j : J) (P : List D → J → Prop) (E : XP J) : Prop := fa m j (fun x j1 => ∃ xs, seqT x = some xs ∧ fr m j1 (fun ys j2 => P (xs ++ ys) j2) E) E
instance {fa : Ev J} {fr : Av J} [ha : MoE fa] [hb : MoA fr] : MoA (aStar fa fr) := ⟨fun h q x => ha.mo h (fun _ _ ⟨xs, e, h1⟩ => ⟨xs, e, hb.mo h1 (fun _ _ p => q _ _ p) x⟩) x⟩
section
variable {S : Js J} {B : Bs} {M : Nat → Bool} {W : WX} {X : Cx} {e : Expr} {es : List Expr} {p : Pos} {fa : Ev J} {fr : Av J}
theorem a_star {k : Bool} (hK : X.K = S.K) (ha : PE X e (rdE S B M W (ofB k) fa)) (hr : PA X es (rdA S B M W k fr)) (hs : starEach (.Starred e p :: es) X.env = (true, eval e X.env) :: starEach es X.env := by rfl) : PA X (.Starred e p :: es) (rdA S B M W k (aStar fa fr)) :=
  PA.imp (StX.pa_star ha hr hs) fun r H Q ⟨g, m, j, P, E, ok, hf, q, xo⟩ => by
    refine ⟨g, m, j, _, E, ok, hf, ?_, xo⟩
    rintro x j1 g1 v1 H1 ⟨xs, ex, p1⟩ l1 ok1 w1
    have w2 := rp_hp w1
    have hh : Same (hp k g1) H1 := by
      cases k
      · exact ok1.b.gh
      · exact ok1.b.fg.trans ok1.b.gh
    cases x with
    | lst ys =>
      cases ex
      obtain ⟨a, vs, rfl, h1, h2⟩ := lst_of w2
      exact ⟨a, vs, rfl, .inr (.of (hh a _ h1)), ⟨g1, m, _, _, E, ok1, p1, fun zs j2 g2 us H2 p2 l2 ok2 w3 => q _ _ g2 _ H2 p2 (l1.trans l2) ok2 (RpL.app (h2.mono (hp_le l2 k)) w3), xo.le l1.f⟩⟩
    | tup ys =>
      cases ex
      obtain ⟨a, vs, rfl, h1, h2⟩ := tup_of w2
      exact ⟨a, vs, rfl, .inl (hK ▸ sqT_same hh h1.t), ⟨g1, m, _, _, E, ok1, p1, fun zs j2 g2 us H2 p2 l2 ok2 w3 => q _ _ g2 _ H2 p2 (l1.trans l2) ok2 (RpL.app (h2.mono (hp_le l2 k)) w3), xo.le l1.f⟩⟩
    | _ => cases ex
end
/-! ### a, b = a list -/
def gLs (γs : Gvs) : Gv := fun d m => match d with
  | .lst ds => γs ds m
  | _ => none
section
variable {S : Js J} {B : Bs} {M : Nat → Bool} {X : Cx} {es : List Expr} {pos : Pos}
theorem gL {w : Bool} {kt n : Nat} {ks : List Nat} {γs : Gvs} (hK : X.K = S.K) (hl : ∀ ds m m', γs ds m = some m' → ds.length = n) (h : PGs X es (rdGs S B M ks γs)) (hc : X.calm = true := by rfl) (hn : (assignEach es X.env).length = n := by rfl) (hst : (assignEach es X.env).findIdx? (·.1) = none := by rfl) :
    PG X (.Tuple es kt pos) (rdG S B M w ks (gLs γs)) := PG.imp (pg_unl hc h hn hst) fun v r H Q ⟨g, m, j, d, m', ok, rp, e, q⟩ => by
  cases d with
  | lst ds =>
    rcases rp with rp | ⟨_, T, vs, es, rfl, hT, he, ra⟩
    · obtain ⟨a, vs, rfl, ha, ra⟩ := lst_of rp
      exact ⟨a, vs, rfl, .of ((ok.b.fg.trans ok.b.gh) _ _ ha), by rw [← ra.length]; exact hl _ _ _ e, g, m, j, _, _, ok, ra, e, q⟩
    · cases he
  | _ => cases e
end
end Mp

/-! NT: sorted(set(..)), len(set(..)) of ints. -/
namespace Mp
open PySem PySem.Spec L2
open PyProof.Rows hiding St
section
variable {P : Program} {w : World} {A : Around} {E : Value → Shared → Prop} {s : Shared}
set_option maxRecDepth 100000 in
set_option maxHeartbeats 3200000 in
theorem call_set_lstI {l : Addr} {items : Array Value} (ns : List Int) {Q : Value → Shared → Prop} (hh : A.handled = none) (hl : s.heap.IsList l items) (hit : IntsAre items.toList ns) (hb : ns.length + 1 < scanBound)
    (h : ∀ (h' : Heap) (tk c : Nat), SetR w h' s.heap.objs.size (fun j => decide (j ∈ ns)) c → c ≤ ns.length → (∀ b o, s.heap.get? b = some o → h'.get? b = some o) → Q (.ref s.heap.objs.size) { s with heap := h', toks := tk }) :
    wpAny (model P w) A (call (.type "set") [.ref l]) Q E s := by
  have hisz : items.size = ns.length := by
    have q := IntsAre.length hit
    rw [Array.length_toList] at q
    exact q
  obtain ⟨c, tl, hmro⟩ := F.called_set.mro
  have hmade := F.called_set.made
  have hsub := F.called_set.sub
  refine wpAny_call (codeAny_of_tree ?_)
  show wpAny _ _ (callAny (.type "set") _) _ _ _
  refine wpAny_pure ⟨Code.quiet_builtin _ (by decide +kernel), codeAny_builtin F.entry_type_call ?_⟩
  rw [Around.under_plain (weight_type_call_type "set" [.ref l] []) rfl]
  have h1 := F.called_set.notType
  have h2 := F.called_set.canCreate
  have hct := F.typeCall_set_1 (.ref l)
  repeat (any_goals (first | assumption | wp_step))

  refine codeAny_mono (code_set_led1 (.ref l) (E := E) (Q₁ := fun obj s₁ => obj = .ref s.heap.objs.size ∧ s₁ = { s with heap := s.heap.push { cls := .type "set", dict := none, data := .set #[] 0 (.fresh 0 0 (!w.params.followText "set-order")) } }) ⟨rfl, rfl⟩) fun r s₁ hr => ?_
  cases r with
  | error e => exact hr
  | ok fl =>
    cases fl with
    | ret obj =>
      obtain ⟨rfl, rfl⟩ := hr
      have hS : (s.heap.push { cls := .type "set", dict := none, data := .set #[] 0 (.fresh 0 0 (!w.params.followText "set-order")) }).get? s.heap.objs.size = some { cls := .type "set", dict := none, data := .set #[] 0 (.fresh 0 0 (!w.params.followText "set-order")) } := Heap.get?_push_size _ rfl
      have hT : Shared.TypeIs { s with heap := s.heap.push { cls := .type "set", dict := none, data := .set #[] 0 (.fresh 0 0 (!w.params.followText "set-order")) } } (.ref s.heap.objs.size) "set" := ⟨_, hS, rfl⟩
      have hli := F.called_set.init.lookup
      have hbi := F.called_set.init.bind (.ref s.heap.objs.size)
      repeat (any_goals (first | assumption | wp_step))

      refine codeAny_mono (codeAny_call_builtin (R := wants (fun r s₂ => r = .none ∧ ∃ h' tk c, s₂ = { s with heap := h', toks := tk } ∧ SetR w h' s.heap.objs.size (fun j => decide (j ∈ ns)) c ∧ c ≤ ns.length ∧
          (∀ b o, s.heap.get? b = some o → h'.get? b = some o)) E) F.called_set.init.plain F.entry_set_init (check_set_init_1 hT ?_)) fun r₂ s₂ hr₂ => ?_
      · obtain ⟨ol, hol, hcl, nl, hdl⟩ := hl
        obtain ⟨ocls, odict, odata, oslots⟩ := ol
        simp only at hcl hdl
        subst hcl; subst hdl
        have hol' : (s.heap.push { cls := .type "set", dict := none, data := .set #[] 0 (.fresh 0 0 (!w.params.followText "set-order")) }).get? l = some { cls := .type "list", dict := odict, data := .seq items nl, slots := oslots } := Heap.get?_push_of_some _ hol
        have hsls := F.sub_list_set
        have hslf := F.sub_list_frozenset
        have hne : (Value.type "list" == Value.type "dict") = false := by decide
        have hl1 : (s.heap.push { cls := .type "set", dict := none, data := .set #[] 0 (.fresh 0 0 (!w.params.followText "set-order")) }).IsList l items := ⟨_, hol', rfl, nl, rfl⟩
        unfold Builtin.«set.__init__» noKeywords Builtin.Frozenset.updateFrom
        generalize hPI : pyIter = PI
        wp_walk
        subst hPI

        refine wpAny_pyIter_list hl1 ?_
        refine wpAny_bind (wpAny_runValue ?_)
        have hlS : l < s.heap.objs.size := Heap.lt_size hol
        have hh3 : A.in1.in1.in1.handled = none := by simp [hh]
        have hz1 : (s.heap.push { cls := .type "set", dict := none, data := .set #[] 0 (.fresh 0 0 (!w.params.followText "set-order")) }).objs.size = s.heap.objs.size + 1 := Heap.size_push ..
        have hneI : l ≠ (s.heap.push { cls := .type "set", dict := none, data := .set #[] 0 (.fresh 0 0 (!w.params.followText "set-order")) }).objs.size := by
          rw [Heap.size_push]; exact Nat.ne_of_lt (Nat.lt_succ_of_lt hlS)
        have hSf : s.heap.objs.size ∉ [(s.heap.push { cls := .type "set", dict := none, data := .set #[] 0 (.fresh 0 0 (!w.params.followText "set-order")) }).objs.size, l] := by
          rw [Heap.size_push]; simp only [List.mem_cons, List.mem_singleton, List.not_mem_nil, or_false, not_or]
          exact ⟨Nat.ne_of_lt (Nat.lt_succ_self _), Nat.ne_of_gt hlS⟩
        have hval : ∀ (i : Nat) (v : Value), items[i]? = some v → ∃ k t, ns[i]? = some k ∧ v = .int k t := fun i v hv => by
          have hi : i < ns.length := by rw [← hisz]; exact (Array.getElem?_eq_some_iff.mp hv).1
          obtain ⟨t, e⟩ := PyProof.Rows.IntsAre.int_at hit i v (by rw [Array.getElem?_toList]; exact hv)
          refine ⟨ns[i], t, List.getElem?_eq_getElem hi, ?_⟩
          rw [e, List.getD_eq_getElem?_getD, List.getElem?_eq_getElem hi] <;> rfl
        refine set_update_ints ((Walks.list hh3 _ l hneI items).toS) s.heap.objs.size
          hSf ns hisz hb hval (items.size - 0) 0 _ (by omega) (Nat.zero_le _)
          ⟨⟨_, Heap.get?_push_size _ rfl, rfl, rfl⟩, (hl1.push _)⟩ ?hS0 ?hR
        case hS0 =>
          have hget : ((s.heap.push { cls := .type "set", dict := none, data := .set #[] 0 (.fresh 0 0 (!w.params.followText "set-order")) }).push { cls := .type "list_iterator", data := .fields #[.ref l, .int 0 0] }).get? s.heap.objs.size
              = some { cls := .type "set", dict := none, data := .set #[] 0 (.fresh 0 0 (!w.params.followText "set-order")) } := Heap.get?_push_of_some _ hS
          exact ⟨0, Nat.le_refl 0, setR_new_at hget⟩
        case hR =>
          intro s' c' hm hc' hS'
          obtain ⟨h', g2, d', tk', os'⟩ := s'
          have eg : g2 = s.gens := hm.gens
          have ed : d' = s.drawn := hm.drawn
          have eo : os' = s.os := hm.os
          subst eg; subst ed; subst eo
          show wpAny _ _ _ _ _ _
          refine wpAny_pure ?_
          show wpAny _ _ (ret Value.none) _ _ _
          rw [hisz] at hc'
          refine wpAny_pure ⟨rfl, h', tk', c', rfl, hS', hc', fun b o e => ?_⟩
          have hb0 : b < s.heap.objs.size := Heap.lt_size e
          have hb1 : b ≠ s.heap.objs.size := Nat.ne_of_lt hb0
          have hb2 : b ≠ (s.heap.push { cls := .type "set", dict := none, data := .set #[] 0 (.fresh 0 0 (!w.params.followText "set-order")) }).objs.size := by
            rw [Heap.size_push]; exact Nat.ne_of_lt (Nat.lt_succ_of_lt hb0)
          exact hm.heap b o (by simp only [List.mem_cons, List.mem_singleton, List.not_mem_nil, or_false, not_or]; exact ⟨hb1, hb2⟩) (Heap.get?_push_of_some _ (Heap.get?_push_of_some _ e))

      · cases r₂ with
        | error e => exact hr₂
        | ok fl₂ =>
          cases fl₂ with
          | ret r =>
            obtain ⟨rfl, h', tk, c', rfl, hS', hc', hk'⟩ := hr₂
            repeat (any_goals (first | assumption | wp_step))
            exact h _ _ _ hS' hc' hk'
          | _ => exact hr₂.elim
    | _ => exact hr.elim

end
end Mp

/-! NU: sorted(set(..)), len(set(..)) of ints, on data. -/
namespace Mp
open PySem PySem.Spec L2
open PyProof.Rows hiding St
variable {J : Type}
section
open PySem.Spec PyProof.Rows
variable {P : Program} {w : World} {A : Around} {E : Value → Shared → Prop} {s : Shared} {a : Addr}
/-- sorted(a set of ints), any number of them -/
theorem sorted_setA {S : Int → Bool} {n : Nat} {Q : Value → Shared → Prop} (R : SetR w s.heap a S n) (hh : A.handled = none) (h64 : n < 100000)
    (hQ : ∀ s' p (out : Array Value) (c : Nat) (ns : List Int), (∀ b o, s.heap.get? b = some o → s'.heap.get? b = some o) → s'.gens = s.gens → s'.os = s.os → s.heap.objs.size ≤ p →
      s'.heap.get? p = some (seqObj "list" out c) → IntsAre out.toList ns → ns.Pairwise (· < ·) → (∀ k, k ∈ ns ↔ S k = true) → ns.length = n → Q (.ref p) s') :
    wpAny (model P w) A (call (.builtin "sorted") [.ref a]) Q E s := by
  obtain ⟨o, es, ep, t, ho, hex, hd, g, nd, hm, hb, hf, hn, hr, hl⟩ := R
  refine Calls.call_function_entry kind_sorted plain_sorted entry_sorted (args_sorted1 _) ?_
  unfold Builtin.«sorted»
  refine wpAny_bind (m := checkCount "sorted" 1 1 _) (wpAny_pure ?_)
  refine wpAny_bind (collect_set (A := A.in1) hh ⟨o, ho, hex.1, hd⟩ hf hb hr hl fun s1 vs k1 hz g1 o1 pm => ?_)
  have hvl : vs.length = n := by rw [pm.length_eq, List.length_map, Array.length_toList]; exact hn
  have hI : IntsAre vs (vs.map Builtin.Re.reRawOf) := ints_of vs fun v hv => by
    obtain ⟨e, he, q⟩ := List.mem_map.mp (pm.mem_iff.mp hv)
    obtain ⟨k, tk, h1, _⟩ := g e he
    exact ⟨k, tk, by rw [← q]; exact h1⟩
  have pk : (vs.map Builtin.Re.reRawOf).Perm (es.toList.map keyOf) := by
    have q := pm.map Builtin.Re.reRawOf
    rw [List.map_map] at q
    exact q
  refine wpAny_bind (wpAny_newList ?_ (by rw [hvl, sizeLine_eq]; omega))
  have hoL : (s1.heap.push (seqObj "list" vs.toArray 0)).get? s1.heap.objs.size = some (seqObj "list" vs.toArray 0) := Heap.get?_push_size _ rfl
  refine wpAny_bind (wpAny_holding (wpAny_call_entry slot_list_sort ⟨_, hoL, rfl⟩ entry_list_sort (list_sort_treeAny hoL hI (by rw [hvl, sizeLine_eq]; omega) fun out ns' a1 a2 a3 => ⟨_, rfl, ?_⟩) (args_list_sort _)))
  obtain ⟨c, hc⟩ := sortedHeap_at (vs := vs) (out := out) hoL
  have pn : ns'.Perm (es.toList.map keyOf) := a2.trans pk
  refine wpAny_pure ⟨_, rfl, hQ _ s1.heap.objs.size out c ns' (fun b u e => ?_) g1 o1 hz hc a1 (lt_of_le_nodup ns' a3 (pn.nodup_iff.mpr nd)) (fun k => by rw [pn.mem_iff, ← hm k]) ?_⟩
  · have q := k1 b u e
    have hlt := Heap.lt_size q
    show (sortedHeap (s1.heap.push (seqObj "list" vs.toArray 0)) s1.heap.objs.size vs out).get? b = some u
    rw [sortedHeap_old (Nat.ne_of_lt hlt) (by rw [size_push']; exact Nat.lt_succ_of_lt hlt)]
    exact Heap.get?_push_of_some _ q
  · rw [pn.length_eq, List.length_map, Array.length_toList]; exact hn
end
/-- the members, ascending -/
def ssort (ns : List Int) : List Int := isort ns.eraseDups
theorem ssort_mem {ns : List Int} {k : Int} : k ∈ ssort ns ↔ k ∈ ns := by
  unfold ssort
  rw [(isort_perm _).mem_iff, List.mem_eraseDups]
theorem lt_uniq : ∀ {a b : List Int}, a.Pairwise (· < ·) → b.Pairwise (· < ·) → (∀ k, k ∈ a ↔ k ∈ b) → a = b
  | [], [], _, _, _ => rfl
  | [], y :: b, _, _, h => absurd ((h y).mpr List.mem_cons_self) (by simp)
  | x :: a, [], _, _, h => absurd ((h x).mp List.mem_cons_self) (by simp)
  | x :: a, y :: b, h1, h2, h => by
    have a1 := List.pairwise_cons.mp h1
    have b1 := List.pairwise_cons.mp h2
    have e : x = y := by
      rcases List.mem_cons.mp ((h x).mp List.mem_cons_self) with e | hx
      · exact e
      · rcases List.mem_cons.mp ((h y).mpr List.mem_cons_self) with e | hy
        · exact e.symm
        · have := a1.1 y hy
          have := b1.1 x hx
          omega
    subst e
    rw [lt_uniq a1.2 b1.2 fun k => ?_]
    constructor
    · intro hk
      rcases List.mem_cons.mp ((h k).mp (List.mem_cons_of_mem _ hk)) with e | hk'
      · have := a1.1 k hk; omega
      · exact hk'
    · intro hk
      rcases List.mem_cons.mp ((h k).mpr (List.mem_cons_of_mem _ hk)) with e | hk'
      · have := b1.1 k hk; omega
      · exact hk'
theorem nodup_eraseDups : ∀ (n : Nat) (ns : List Int), ns.length ≤ n → ns.eraseDups.Nodup
  | _, [], _ => by simp
  | 0, _ :: _, h => by simp at h
  | n + 1, a :: r, h => by
    rw [List.eraseDups_cons]
    refine List.nodup_cons.mpr ⟨fun z => ?_, nodup_eraseDups n _ ?_⟩
    · rw [List.mem_eraseDups] at z
      simp at z
    · have := List.length_filter_le (fun b => !b == a) r
      simp at h
      omega
theorem ssort_up (ns : List Int) : (ssort ns).Pairwise (· < ·) := by
  have h1 := isort_sorted ns.eraseDups
  have h2 : (isort ns.eraseDups).Nodup := (isort_perm _).nodup_iff.mpr (nodup_eraseDups _ ns (Nat.le_refl _))
  exact List.Pairwise.imp₂ (fun {a b} h g => by
    have : a ≠ b := g
    have : a ≤ b := h
    omega) h1 h2
theorem ssort_of {ns ms : List Int} (h1 : ms.Pairwise (· < ·)) (h2 : ∀ k, k ∈ ms ↔ k ∈ ns) : ssort ns = ms := lt_uniq (ssort_up ns) h1 fun k => by rw [ssort_mem, h2]
theorem ssort_len (ns : List Int) : (ssort ns).length ≤ ns.length := by
  unfold ssort
  rw [(isort_perm _).length_eq]
  have : ∀ (n : Nat) (ns : List Int), ns.length ≤ n → ns.eraseDups.length ≤ ns.length := fun n => by
    induction n with
    | zero => intro ns h; cases ns with
      | nil => simp
      | cons a r => simp at h
    | succ n ih =>
      intro ns h
      cases ns with
      | nil => simp
      | cons a r =>
        rw [List.eraseDups_cons]
        have h1 := List.length_filter_le (fun b => !b == a) r
        have h2 := ih (r.filter fun b => !b == a) (by simp at h; omega)
        simp
        omega
  exact this _ ns (Nat.le_refl _)
def ssI (xs : List D) : Option D := match ints? xs with | some ns => if ns.length < 4000 then some (.lst ((ssort ns).map D.int)) else none | none => none
def slI (xs : List D) : Option D := match ints? xs with | some ns => if ns.length < 1000 then some (.int (ssort ns).length) else none | none => none
theorem ssI_some {xs : List D} {d : D} (h : ssI xs = some d) : ∃ ns, xs = ns.map D.int ∧ ns.length < 4000 ∧ d = .lst ((ssort ns).map D.int) := by
  unfold ssI at h
  cases hn : ints? xs with
  | none => rw [hn] at h; cases h
  | some ns =>
    rw [hn] at h
    have h : (if ns.length < 4000 then some (D.lst ((ssort ns).map D.int)) else none) = some d := h
    by_cases c : ns.length < 4000
    · rw [if_pos c] at h; exact ⟨ns, ints?_some hn, c, (Option.some.inj h).symm⟩
    · rw [if_neg c] at h; cases h
theorem slI_some {xs : List D} {d : D} (h : slI xs = some d) : ∃ ns, xs = ns.map D.int ∧ ns.length < 1000 ∧ d = .int (ssort ns).length := by
  unfold slI at h
  cases hn : ints? xs with
  | none => rw [hn] at h; cases h
  | some ns =>
    rw [hn] at h
    have h : (if ns.length < 1000 then some (D.int (ssort ns).length) else none) = some d := h
    by_cases c : ns.length < 1000
    · rw [if_pos c] at h; exact ⟨ns, ints?_some hn, c, (Option.some.inj h).symm⟩
    · rw [if_neg c] at h; cases h
theorem ssI_of {ns : List Int} (h : ns.length < 4000) : ssI (ns.map D.int) = some (.lst ((ssort ns).map D.int)) := by
  unfold ssI
  rw [ints?_map]
  exact if_pos h
theorem slI_of {ns : List Int} (h : ns.length < 1000) : slI (ns.map D.int) = some (.int (ssort ns).length) := by
  unfold slI
  rw [ints?_map]
  exact if_pos h
def sortSetD : D → Option D
  | .lst xs => ssI xs
  | .tup xs => ssI xs
  | _ => none
def lenSetD : D → Option D
  | .lst xs => slI xs
  | _ => none
def tSetOf (K : PySem.W.Frag) (ta : TE) (R : List Int → Hp → VK → Prop) : TE := fun σ H Q => ta σ H fun x H1 => ∃ (l : Addr) (ns : List Int), x = V.ref l ∧ (SqL K H1 l (ns.map V.int) ∨ SqT K H1 l (ns.map V.int)) ∧ ns.length < 4000 ∧ R ns H1 Q
def rSortSet : List Int → Hp → VK → Prop := fun ns H Q => ∀ p : Addr, H p = none → Q (.ref p) (upd H p (.lst ((ssort ns).map V.int)))
section
variable {X : Cx} {a : Expr} {ta : TE} {p p2 q pos : Pos}
theorem setR_of {pins : List (Addr × Obj)} {σ : L2.St} {H : Hp} {s : Shared} {l : Addr} {ns : List Int} {E : Value → Shared → Prop} {Q : Value → Shared → Prop} (hc : X.calm = true) (I : Inv X pins σ H s) (h : SqL X.K H l (ns.map V.int) ∨ SqT X.K H l (ns.map V.int)) (h64 : ns.length < 4000)
    (hQ : ∀ (h' : Heap) (tk c : Nat), SetR X.w h' s.heap.objs.size (fun j => decide (j ∈ ns)) c → c ≤ ns.length → (∀ b o, s.heap.get? b = some o → h'.get? b = some o) → Q (.ref s.heap.objs.size) { s with heap := h', toks := tk }) :
    wpAny (model X.prog X.w) X.A (call (.type "set") [.ref l]) Q E s := by
  rcases h with h | h
  · obtain ⟨its, r, pl, hz⟩ := I.list h
    exact call_set_lstI ns (I.ok.hd hc) pl.isList (by simpa using r.ints) (by unfold scanBound; omega) hQ
  · obtain ⟨its, rv, hT, _⟩ := I.tuple h
    exact call_set_tupI ns (I.ok.hd hc) hT (by simpa using rv.ints) (by unfold scanBound; omega) hQ
theorem pe_sortSet (hc : X.calm = true) (hg : Gl X "sorted") (hm : X.mg "sorted" = none) (hg2 : Gl X "set") (hm2 : X.mg "set" = none) (ha : PE X a ta)
    (na : starEach [a] X.env = (false, eval a X.env) :: starEach [] X.env := by rfl) : PE X (.Call (.Name "sorted" p) [.Call (.Name "set" p2) [a] [] q] [] pos) (tSetOf X.K ta rSortSet) := by
  refine ⟨fun pins s σ H Q I h => ?_⟩
  refine Call_ (ld_blt I hg hm boot_sorted ?_)
  refine PyProof.Rows.callWith_builtin1 (PyProof.Rows.args_cons ?_ rfl) rfl rfl
  refine Call_ (ld_blt I hg2 hm2 boot_set ?_)
  refine PyProof.Rows.callWith_type1 (PyProof.Rows.args_cons (thn (ha.run pins s σ H _ I h) fun v s1 ⟨x, H1, I1, r1, q1⟩ => PyProof.Rows.args_nil ?_) na) na rfl
  obtain ⟨l, ns, rfl, hq, h1, q1⟩ := q1
  cases r1
  refine setR_of hc I1 hq h1 fun h' tk c R hcl hk => ?_
  refine PyProof.Rows.args_nil ?_
  have I2 : Inv X pins σ H1 { s1 with heap := h', toks := tk } := I1.kept hk
  refine sorted_setA R (I2.ok.hd hc) (by omega) fun s' p out c ns' k g o hp hg' hi hs hm' hl => ?_
  have e1 : ns' = ssort ns := (ssort_of hs fun k => by rw [hm' k, decide_eq_true_eq]).symm
  subst e1
  have hlen : ((ssort ns).map V.int).length ≤ sizeLine := by rw [List.length_map, sizeLine_eq]; have := ssort_len ns; omega
  have hn : H1 p = none := I2.hok.fresh hp
  have J : Inv X pins σ (upd H1 p (.lst ((ssort ns).map V.int))) { ({ s1 with heap := h', toks := tk } : Shared) with heap := s'.heap, gens := s'.gens, drawn := s'.drawn, toks := s'.toks } :=
    I2.call (ch := []) (Un.laid k hp hn) (I2.hok.laid k hp ⟨hlen, out.toList, c, vals_of_ints hi, hg'⟩) (by rw [g]; exact I2.bare) (fun _ z => nomatch z)
  have e : s' = { s1 with heap := s'.heap, gens := s'.gens, drawn := s'.drawn, toks := s'.toks } := by
    cases s'
    cases s1
    cases o
    rfl
  rw [e]
  exact ⟨.ref p, _, J, rfl, q1 p hn⟩
def tLenSet (K : PySem.W.Frag) (ta : TE) : TE := fun σ H Q => ta σ H fun x H1 => ∃ (l : Addr) (ns : List Int), x = V.ref l ∧ SqL K H1 l (ns.map V.int) ∧ ns.length < 1000 ∧ Q (.int (ssort ns).length) H1
theorem met_nodup (val : Nat → Int) : ∀ i, (firstMet val i).Nodup
  | 0 => by simp [firstMet]
  | i + 1 => by
    rw [firstMet_succ]
    unfold step_dedup
    split
    · exact met_nodup val i
    · rename_i h
      refine List.nodup_append.mpr ⟨met_nodup val i, by simp, fun x hx y hy => ?_⟩
      rw [List.mem_singleton.mp hy]
      intro z
      exact h (List.any_eq_true.mpr ⟨x, hx, by simp [z]⟩)
theorem met_len (ns : List Int) : (firstMet (fun i => ns.getD i 0) ns.length).length = (ssort ns).length := by
  have e : (List.range ns.length).map (fun i => ns.getD i 0) = ns := by
    apply List.ext_getElem
    · simp
    · intro i h1 h2
      simp at h1 ⊢
      rw [List.getElem?_eq_getElem h2]; rfl
  refine List.Perm.length_eq ((List.perm_ext_iff_of_nodup (met_nodup _ _) ?_).mpr fun k => ?_)
  · exact (ssort_up ns).imp fun {a b} h => by omega
  · rw [ssort_mem]
    have h := firstMet_any (fun i => ns.getD i 0) ns.length k
    rw [e] at h
    constructor
    · intro hk
      have h1 : (firstMet (fun i => ns.getD i 0) ns.length).any (· == k) = true := List.any_eq_true.mpr ⟨k, hk, by simp⟩
      rw [h] at h1
      obtain ⟨x, hx, e2⟩ := List.any_eq_true.mp h1
      rw [beq_iff_eq] at e2
      rw [← e2]; exact hx
    · intro hk
      have h1 : ns.any (· == k) = true := List.any_eq_true.mpr ⟨k, hk, by simp⟩
      rw [← h] at h1
      obtain ⟨x, hx, e2⟩ := List.any_eq_true.mp h1
      rw [beq_iff_eq] at e2
      rw [← e2]; exact hx
theorem pe_lenSet (hc : X.calm = true) (hg : Gl X "len") (hm : X.mg "len" = none) (hg2 : Gl X "set") (hm2 : X.mg "set" = none) (ha : PE X a ta)
    (na : starEach [a] X.env = (false, eval a X.env) :: starEach [] X.env := by rfl) : PE X (.Call (.Name "len" p) [.Call (.Name "set" p2) [a] [] q] [] pos) (tLenSet X.K ta) := by
  refine ⟨fun pins s σ H Q I h => ?_⟩
  refine Call_ (ld_blt I hg hm PySem.boot_len ?_)
  refine PyProof.Rows.callWith_builtin1 (PyProof.Rows.args_cons ?_ rfl) rfl rfl
  refine Call_ (ld_blt I hg2 hm2 boot_set ?_)
  refine PyProof.Rows.callWith_type1 (PyProof.Rows.args_cons (thn (ha.run pins s σ H _ I h) fun v s1 ⟨x, H1, I1, r1, q1⟩ => PyProof.Rows.args_nil ?_) na) na rfl
  obtain ⟨l, ns, rfl, hq, h1, q1⟩ := q1
  cases r1
  obtain ⟨its, r, pl, hz⟩ := I1.list hq
  have hl : its.toArray.size = ns.length := by rw [List.size_toArray, ← r.length, List.length_map]
  refine call_set_list (I1.ok.hd hc) pl.isList (ns := ns) (by simpa using r.ints) (by unfold scanBound; omega) fun h' tk hS hk => ?_
  rw [hl, met_len ns] at hS
  refine PyProof.Rows.args_nil ?_
  obtain ⟨o, es, ep, t, ho, hex, hd, _, _, _, hf, hn⟩ := hS
  have I2 : Inv X pins σ H1 { s1 with heap := h', toks := tk } := I1.kept fun b o e => hk b o (Heap.lt_size e) e
  have := ssort_len ns
  refine call_len_set ho hex hd hf (by rw [hn] <;> omega) ⟨.int (ssort ns).length, H1, I2.tok _, ⟨_, by rw [hn]⟩, q1⟩
end
section
variable {S : Js J} {B : Bs} {M : Nat → Bool} {W : WX} {X : Cx} {a : Expr} {fa : Ev J} {p p2 q pos : Pos}
theorem e_sortSet {k : Bool} (hK : X.K = S.K) (hm : X.mg "sorted" = none) (hm2 : X.mg "set" = none) (ha : PE X a (rdE S B M W (ofB k) fa)) (hc : X.calm = true := by rfl) (hg : Gl X "sorted" := by rfl) (hg2 : Gl X "set" := by rfl)
    (na : starEach [a] X.env = (false, eval a X.env) :: starEach [] X.env := by rfl) : PE X (.Call (.Name "sorted" p) [.Call (.Name "set" p2) [a] [] q] [] pos) (rdE S B M W .fresh (eUn sortSetD fa)) :=
  PE.imp (pe_sortSet hc hg hm hg2 hm2 ha na) fun R H Q ⟨g, m, j, P, E, ok, hf, q, xo⟩ => by
    refine ⟨g, m, j, _, E, ok, hf, ?_, xo⟩
    rintro x j1 g1 v1 H1 ⟨d, h3, pd⟩ l1 ok1 w1
    have w2 := rp_hp w1
    have hh : Same (hp k g1) H1 := by
      cases k
      · exact ok1.b.gh
      · exact ok1.b.fg.trans ok1.b.gh
    have fin : ∀ ns : List Int, ns.length < 4000 → d = .lst ((ssort ns).map D.int) → rSortSet ns H1 Q := fun ns h64 ed p np => by
      obtain ⟨n1, n2, n3, n4⟩ := ok1.b.hn np
      have l2 : Le g1 (g1.see p (.lst ((ssort ns).map V.int))) := Le.see n2
      subst ed
      exact q _ _ _ _ _ pd (l1.trans l2) ⟨ok1.b.see _ np, ok1.s.le l2⟩ ⟨p, rfl, l1.g.free n2, n1, .inl ⟨_, _, rfl, upd_same, RpL.ints _⟩⟩
    cases x with
    | lst ys =>
      obtain ⟨ns, rfl, h64, ed⟩ := ssI_some h3
      obtain ⟨l, vs, rfl, h1, h2⟩ := lst_of w2
      have hv := RpL.of_ints h2
      subst hv
      exact ⟨l, ns, rfl, .inl (.of (hh l _ h1)), h64, fin ns h64 ed⟩
    | tup ys =>
      obtain ⟨ns, rfl, h64, ed⟩ := ssI_some h3
      obtain ⟨l, vs, rfl, h1, h2⟩ := tup_of w2
      have hv := RpL.of_ints h2
      subst hv
      exact ⟨l, ns, rfl, .inr (hK ▸ sqT_same hh h1.t), h64, fin ns h64 ed⟩
    | _ => cases h3
theorem e_lenSet {k : Bool} (hm : X.mg "len" = none) (hm2 : X.mg "set" = none) (ha : PE X a (rdE S B M W (ofB k) fa)) (hc : X.calm = true := by rfl) (hg : Gl X "len" := by rfl) (hg2 : Gl X "set" := by rfl)
    (na : starEach [a] X.env = (false, eval a X.env) :: starEach [] X.env := by rfl) : PE X (.Call (.Name "len" p) [.Call (.Name "set" p2) [a] [] q] [] pos) (rdE S B M W .clean (eUn lenSetD fa)) :=
  PE.imp (pe_lenSet hc hg hm hg2 hm2 ha na) fun R H Q ⟨g, m, j, P, E, ok, hf, q, xo⟩ => by
    refine ⟨g, m, j, _, E, ok, hf, ?_, xo⟩
    rintro x j1 g1 v1 H1 ⟨d, h3, pd⟩ l1 ok1 w1
    have w2 := rp_hp w1
    have hh : Same (hp k g1) H1 := by
      cases k
      · exact ok1.b.gh
      · exact ok1.b.fg.trans ok1.b.gh
    cases x with
    | lst ys =>
      obtain ⟨ns, rfl, h64, ed⟩ := slI_some h3
      obtain ⟨l, vs, rfl, h1, h2⟩ := lst_of w2
      have hv := RpL.of_ints h2
      subst hv
      subst ed
      exact ⟨l, ns, rfl, .of (hh l _ h1), h64, q _ _ _ _ _ pd l1 ok1 (.int _)⟩
    | _ => cases h3
end
end Mp

/-! NX: raise C(e), C an own class with one field; try .. except C as x; in the suite isinstance(x, C), x.f; {}, {'a': 0}. -/
namespace Mp
open PySem PySem.Spec L2
open PyProof.Rows hiding St
variable {J : Type}
/-! ### raise -/
def sRaise (c : Nat) (fe : Ev J) (m : Sd) (j : J) (P : Fl → Sd → J → Prop) (E : XP J) : Prop := fe m j (fun d j1 => E ⟨c, some d⟩ m j1) E
instance {c : Nat} {fe : Ev J} [h1 : MoE fe] : MoS (sRaise c fe) := ⟨fun h q x => h1.mo h (fun _ _ p => x _ _ _ p) x⟩
/-- what an __init__ with one field does -/
def spIni (K : PySem.W.Frag) (f : Str) : Sp := fun vs H Q E => ∃ (a C : Addr) (y : V), vs = [.ref a, y] ∧ OexC K C ∧ PySem.W.findIn K (.ref C) f = some none ∧ H a = some (exo a C none) ∧
  ∀ dx, H dx = none → dx ≠ a → Q .non (upd (upd H dx (exd dx [(f, y)])) a (exo a C (some dx)))
/-- a class that is raised -/
structure XMk (S : Js J) (P : Program) (w : World) (mg : Str → Option Value) (base : Heap) (c : Nat) (x : Str) : Prop where
  ex : ∃ (fI : Addr) (fd : FuncData) (ps : List Str), FnOk P w S.K mg base CX0 1 fI fd ps (spIni S.K (S.xf c)) ∧ PySem.W.findIn S.K (.ref (S.xc c)) "__init__" = some (some (.ref fI)) ∧ PySem.W.typeIn S.K (.ref fI) = some (.type "function") ∧ Binds S.K fd ps []
  T : OexC S.K (S.xc c)
  no : PySem.W.findIn S.K (.ref (S.xc c)) (S.xf c) = some none
  gl : mg x = some (.ref (S.xc c))
theorem ini_ok {P : Program} {w : World} {K : PySem.W.Frag} {mg : Str → Option Value} {base : Heap} {x qual p1 p2 f : Str} {st : Stmt} {fI : Addr} {fd : FuncData} {q1 q2 q3 q4 : Pos} (F : L2.Fun K x qual st fI fd) (Sc : FnScope [p1, p2] [p1, p2] (defScope st))
    (hb : defBody st = [.Assign [.Attribute (.Name p1 q1) f q2] (.Name p2 q3) q4]) (h1 : Vis (defScope st) p1) (h2 : Vis (defScope st) p2) (d1 : (p1 == ("__debug__" : Str)) = false) (d2 : (p2 == ("__debug__" : Str)) = false) (e1 : (p1 == ("__classdict__" : Str)) = false) (e2 : (p2 == ("__classdict__" : Str)) = false) :
    FnOk P w K mg base CX0 1 fI fd [p1, p2] (spIni K f) := by
  refine F.ok Sc (fun vs H Q E h => ?_) fun cdv A outer s H vs Q E hr h => ⟨tOst K f (tVar 0) (tVar 1), ?_, ?_⟩
  · obtain ⟨a, C, y, rfl, _⟩ := h
    rfl
  · rw [hb]
    exact pss_one (ps_ost (pe_var (i := 0) rfl h1 d1 e1) (pe_var (i := 1) rfl h2 d2 e2) rfl)
  · obtain ⟨a, C, y, rfl, T, no, ha, q⟩ := h
    exact ⟨y, rfl, .ref a, rfl, a, C, rfl, T, no, .inl ⟨ha, q⟩⟩
section
variable {S : Js J} {B : Bs} {M : Nat → Bool} {W : WX} {X : Cx} {e : Expr} {pos p p2 : Pos} {fe : Ev J} {x : Str}
theorem mk_heap {H : Hp} {a dx : Addr} {o1 o2 o3 o4 : HO} (ha : H a = none) (hd : dx ≠ a) : upd (del (upd (upd (upd H a o1) dx o2) a o3) a) dx o4 = upd H dx o4 := by
  funext b
  by_cases h1 : b = dx
  · subst h1; rw [upd_same, upd_same]
  · rw [upd_ne h1, upd_ne h1]
    by_cases h2 : b = a
    · subst h2; rw [del_same, ha]
    · rw [del_ne h2, upd_ne h2, upd_ne h1, upd_ne h2]
theorem zRaise (c : Nat) (hK : X.K = S.K) (tk : Takes X W) (C : XMk S X.prog X.w X.mg X.base c x) (hr : Room 2 X.A) (he : PE X e (rdE S B M W .clean fe)) (hcalm : X.calm = true := by rfl) (hg : Gl X x := by rfl) (hdb : (x == ("__debug__" : Str)) = false := by decide)
    (hs : starEach [e] X.env = [(false, eval e X.env)] := by rfl) (hpl : (backTo pos (starEach [] X.env)).any (·.1) = false := by rfl) : PS X (.Raise (some (.Call (.Name x p) [e] [] pos)) none p2) (rdS S B M W (sRaise c fe)) := by
  obtain ⟨fI, fd, ps, F, h1, h2, h3⟩ := C.ex
  refine PS.imp (ps_raise hcalm tk (pmk_oex (ds := []) (dvs := []) (hK ▸ C.T) (hK ▸ h1) (hK ▸ h2) (hK ▸ F) hr (hK ▸ h3) .nil pass0 hg C.gl (a_cons (k := true) he a_nil hs) hdb hs hpl)) fun En r H ⟨g, m, j, P, Ep, ok, hf, q, xo⟩ => ?_
  refine ⟨g, m, j, fun ds j' => match ds with | [d] => Ep ⟨c, some d⟩ m j' | _ => False, Ep, ok, hf, fun ds j1 g1 vs H1 pp l1 ok1 w1 => ?_, xo⟩
  cases w1 with
  | nil => exact pp.elim
  | cons w1 wr =>
    cases wr with
    | cons _ _ => exact pp.elim
    | nil =>
      rename_i d v
      refine ⟨by simp, fun a na => ?_⟩
      refine ⟨a, S.xc c, v, rfl, hK ▸ C.T, hK ▸ C.no, upd_same, fun dx hdx hne => ⟨rfl, dx, [(S.xf c, v)], upd_same, ?_, ?_, ?_⟩⟩
      · rw [upd_ne hne, upd_same]
      · rw [upd_ne hne] at hdx; exact hdx
      · have nd : H1 dx = none := by rw [upd_ne hne] at hdx; exact hdx
        rw [mk_heap na hne]
        obtain ⟨n1, n2, n3, n4⟩ := ok1.b.hn nd
        have l2 : Le g1 (g1.frz dx (.xd [(S.xf c, v)])) := Le.frz ok1.b.fg n2
        exact xo _ _ _ _ _ _ _ _ pp (l1.f.trans l2.f) ⟨ok1.b.frz _ nd, ok1.s.le l2⟩ ⟨rfl, dx, v, rfl, upd_same, Rp.mono l2.f w1⟩
end

/-! ### what is known of the classes -/
structure XCl (K : PySem.W.Frag) (C : Addr) : Prop where
  ga : PySem.W.findIn K (.ref C) "__getattribute__" = some (some (.builtin "BaseException.__getattribute__"))
  gg : PySem.W.findIn K (.ref C) "__getattr__" = some none
  exC : PySem.W.subIn K (.ref C) (.type "BaseException") = some true
  hdC : PySem.W.hasDictIn K C = true
  ha : PySem.W.findIn K (.ref C) "__class__" = some (some (.builtin "object.__class__"))
  hn : PySem.W.specialIn K (.builtin "object.__class__") "__get__" = some (some (.builtin "getset_descriptor.__get__"))
  ht : PySem.W.takesIn K (.builtin "object.__class__") = some true
  hm : PySem.W.mroIn K C (.type "object") = some true
  ty : PySem.W.typeIn K (.ref C) = some (.type "type")
  ve : PySem.W.subIn K (.ref C) (.type "ValueError") = some true
theorem XCl.isSome {K : PySem.W.Frag} {C : Addr} (h : XCl K C) : (PySem.W.clsIn K C).isSome = true := by
  obtain ⟨cd, hc, _⟩ := PySem.W.any_some h.hdC
  rw [hc]; rfl
/-- n own classes, by numbers; tT tells which is below which -/
structure XT (K : PySem.W.Frag) (mg : Str → Option Value) (xc : Nat → Addr) (tT : Nat → Nat → Bool) (n : Nat) (names : List (Str × Nat)) (attrs : List Str) : Prop where
  gl : ∀ p ∈ names, mg p.1 = some (.ref (xc p.2)) ∧ p.2 < n
  cl : ∀ c, XCl K (xc c)
  no : ∀ f ∈ attrs, ∀ c, PySem.W.findIn K (.ref (xc c)) f = some none
  su : ∀ c k, k < n → PySem.W.subIn K (.ref (xc c)) (.ref (xc k)) = some (tT c k)
  rf : ∀ k, k < n → tT k k = true
section
variable {K : PySem.W.Frag} {mg : Str → Option Value} {xc : Nat → Addr} {tT : Nat → Nat → Bool} {n : Nat} {names : List (Str × Nat)} {attrs : List Str}
theorem XT.kit (T : XT K mg xc tT n names attrs) (c : Nat) {k : Nat} (hk : k < n) : PySem.W.kitOne K (.ref (xc c)) (.ref (xc k)) = some (tT c k) := by
  unfold PySem.W.kitOne
  split
  · rename_i h
    have e : xc c = xc k := Value.ref.inj (beq_iff_eq.mp h)
    have h1 := T.su c k hk
    rw [e, T.su k k hk, T.rf k hk] at h1
    exact h1
  · unfold PySem.W.kitCls
    have e2 : ((PySem.W.clsIn K (xc k)).isSome && PySem.W.typeIn K (.ref (xc k)) == some (.type "type")) = true := by rw [(T.cl k).isSome, (T.cl k).ty]; rfl
    show (if _ then _ else _) = _
    rw [if_pos e2]
    exact T.su c k hk
theorem kitMeta_ve : PySem.W.kitMeta "ValueError" = true := by decide +kernel
theorem XT.kitV (T : XT K mg xc tT n names attrs) (c : Nat) : PySem.W.kitOne K (.ref (xc c)) (.type "ValueError") = some true := by
  unfold PySem.W.kitOne
  split
  · rfl
  · unfold PySem.W.kitCls
    show (if _ then _ else _) = _
    rw [if_pos kitMeta_ve]
    exact (T.cl c).ve
theorem XT.exm (T : XT K mg xc tT n names attrs) (c : Nat) {k : Nat} (hk : k < n) : PySem.W.exmOne K (.ref (xc c)) (.ref (xc k)) = some (tT c k) := PySem.W.exm_ref (T.cl k).exC (T.cl k).hdC (T.cl k).ty (T.su c k hk)
end

/-! ### try -/
def sTry (i : Nat) (cat : Nat → Bool) (fb : Sv J) (fs : Addr → Ex → Sv J) (m : Sd) (j : J) (P : Fl → Sd → J → Prop) (E : XP J) : Prop :=
  fb m j P (fun e m' j' => if cat e.c = true then ∀ a, fs a e (m'.set i (some (.obj a))) j' (fun l m2 j2 => P l (m2.set i none) j2) (fun _ _ _ => False) else E e m' j')
instance {i : Nat} {cat : Nat → Bool} {fb : Sv J} {fs : Addr → Ex → Sv J} [h1 : MoS fb] [h2 : ∀ a e, MoS (fs a e)] : MoS (sTry i cat fb fs) :=
  ⟨fun h q x => h1.mo h q fun e m' j' z => ite_mono z (fun z a => (h2 a e).mo (z a) (fun _ _ _ p => q _ _ _ p) fun _ _ _ z => z) fun z => x _ _ _ z⟩
section
variable {S : Js J} {B : Bs} {M : Nat → Bool} {W : WX} {X : Cx} {g g' : Gh} {H H' : Hp} {j j' : J} {r : St} {m : Sd}
theorem OkB.inner (k : OkB S B g H j) : OkB S ⟨g.F, B.H0, B.A0⟩ g H j := ⟨k.fg, k.gh, k.ga, k.jr, Same.refl _, fun b o e => (k.g0 b o e).imp (fun z => k.f0 b o z) id, k.a0, k.h0, k.h1, k.sm⟩
theorem OkB.outer (k : OkB S B g H j) (z : OkB S ⟨g.F, B.H0, B.A0⟩ g' H' j') : OkB S B g' H' j' :=
  ⟨z.fg, z.gh, z.ga, z.jr, k.f0.trans z.f0, fun b o e => (z.g0 b o e).elim (fun y => k.g0 b o (k.fg b o y)) .inr, z.a0, z.h0, z.h1, z.sm⟩
theorem Slots.gone (h : Slots S g M r m) (i : Nat) : Slots S g M (r.set i none) (m.set i none) := by
  have ne : ∀ {k : Nat} {d : D}, (m.set i none)[k]? = some (some d) → k ≠ i ∧ m[k]? = some (some d) := fun {k d} e => by
    by_cases hk : k = i
    · subst hk
      by_cases hl : k < m.length
      · rw [List.getElem?_set_self hl] at e; cases e
      · rw [List.getElem?_eq_none (by simpa using hl)] at e; cases e
    · rw [List.getElem?_set_ne (Ne.symm hk)] at e
      exact ⟨hk, e⟩
  refine ⟨by simpa using h.len, fun k d e q => ?_, fun k d e q => ?_, fun k l a d d' e1 e2 q1 q2 r1 r2 => ?_⟩
  · obtain ⟨hk, e⟩ := ne e
    rw [List.getElem?_set_ne (Ne.symm hk)]
    exact h.fr k d e q
  · obtain ⟨hk, e⟩ := ne e
    rw [List.getElem?_set_ne (Ne.symm hk)]
    exact h.ow k d e q
  · obtain ⟨hk, e1⟩ := ne e1
    obtain ⟨hl, e2⟩ := ne e2
    rw [List.getElem?_set_ne (Ne.symm hk)] at r1
    rw [List.getElem?_set_ne (Ne.symm hl)] at r2
    exact h.dj k l a d d' e1 e2 q1 q2 r1 r2
variable {x n : Str} {c : Value} {i : Nat} {body suite : List Stmt} {b0 : Stmt} {np pos pos' : Pos} {cat : Nat → Bool} {fb : Sv J} {fs : Addr → Ex → Sv J}
theorem zTry (i : Nat) (hK : X.K = S.K) (hN : X.N.Nodup) (hc : Names X x c) (hcat : ∀ k, PySem.W.exmOne S.K (.ref (S.xc k)) c = some (cat k)) (tk : Takes X W)
    (hb : ∀ (W : WX) (pn : List (Addr × Obj)) (xe : Value → Shared → Prop), Takes (X.tr pn xe) W → PassesOwn (model X.prog X.w) X.A X.env xe → PSs (X.tr pn xe) body (rdS S B M W fb))
    (hsu : ∀ (a : Addr) (oe : Obj) (ex : Ex) (d : Option Addr) (pn : List (Addr × Obj)) (B' : Bs), Zc (.ref (S.xc ex.c)) d oe → (∃ vs, oe.data = .fields vs) → ExR S B'.F0 ex (.ref (S.xc ex.c)) d → PSs (X.suite a ((a, oe) :: pn)) (b0 :: suite) (rdS S B' M W0 (fs a ex)))
    (hM : M i = false := by rfl) (hi : X.N[i]? = some n := by rfl) (hln : X.env.kindOf n = some .local := by rfl) (hs : X.stack = X.env :: X.outer := by rfl) (hf : X.env.frame = some X.env.locals := by rfl) :
    PS X (.Try body [.ExceptHandler (some (.Name x np)) (some n) (b0 :: suite) pos'] [] [] pos) (rdS S B M W (sTry i cat fb fs)) := by
  refine PS.imp (ps_try_as (i := i) (Wout := W) (tb := fun W => rdS S B M W fb) (ts := fun a cls d D σ H => ∃ (ex : Ex) (B' : Bs), cls = .ref (S.xc ex.c) ∧ ExR S B'.F0 ex cls d ∧ rdS S B' M W0 (fs a ex) D σ H) hs hf hN hi hln hc tk hb ?_) fun D σ H h => ?_
  · intro a oe cls d pn hz hv
    refine ⟨fun pins s σ H D I h => ?_⟩
    obtain ⟨ex, B', rfl, hx, h⟩ := h
    exact (hsu a oe ex d pn B' hz hv hx).run pins s σ H D I h
  · obtain ⟨g, m, j, P, Ep, ok, hf, q, xo⟩ := h
    refine ⟨g, m, j, P, _, ok, hf, q, fun ex m' j' g' r' H' cls dx he l ok' xr => ?_⟩
    have hcls : cls = .ref (S.xc ex.c) := xr.1
    subst hcls
    refine ⟨cat ex.c, by rw [hK]; exact hcat _, fun hb1 a na => ?_, fun hb1 => ?_⟩
    · dsimp only at he
      rw [if_pos hb1] at he
      have st0 := he a
      refine ⟨ex, ⟨g'.F, B.H0, B.A0⟩, rfl, xr, g', _, j', _, _, ⟨ok'.b.inner, ok'.s.set_fr hM (.obj a)⟩, st0, fun fl m2 j2 p => ?_, XOut.no⟩
      cases fl with
      | next => exact fun g3 r3 H3 l3 ok3 => q _ _ _ p g3 _ H3 (l.trans l3) ⟨ok'.b.outer ok3.b, ok3.s.gone i⟩
      | brk => exact fun g3 r3 H3 l3 ok3 => q _ _ _ p g3 _ H3 (l.trans l3) ⟨ok'.b.outer ok3.b, ok3.s.gone i⟩
      | cnt => exact fun g3 r3 H3 l3 ok3 => q _ _ _ p g3 _ H3 (l.trans l3) ⟨ok'.b.outer ok3.b, ok3.s.gone i⟩
      | ret d => exact fun g3 H3 v3 ok3 rv => q _ _ _ p g3 H3 v3 (ok'.b.outer ok3) rv
    · dsimp only at he
      rw [if_neg (by rw [hb1]; exact Bool.false_ne_true)] at he
      exact xo _ _ _ _ _ _ _ _ he l ok' xr
end

/-! ### in the suite -/
/-- isinstance(x, ..): x is what was caught -/
def eIsX (a : Addr) (b : Bool) (y : Option D) (fe : Ev J) (m : Sd) (j : J) (P : D → J → Prop) (E : XP J) : Prop := fe m j (fun d j1 => d = .obj a ∧ (∃ z, y = some z) ∧ P (.bl b) j1) E
/-- x.f -/
def eXf (a : Addr) (ok : Prop) (y : Option D) (fe : Ev J) (m : Sd) (j : J) (P : D → J → Prop) (E : XP J) : Prop := fe m j (fun d j1 => d = .obj a ∧ ok ∧ ∃ z, y = some z ∧ P z j1) E
instance {a : Addr} {b : Bool} {y : Option D} {fe : Ev J} [h1 : MoE fe] : MoE (eIsX a b y fe) := ⟨fun h q x => h1.mo h (fun _ _ ⟨e, z, p⟩ => ⟨e, z, q _ _ p⟩) x⟩
instance {a : Addr} {ok : Prop} {y : Option D} {fe : Ev J} [h1 : MoE fe] : MoE (eXf a ok y fe) := ⟨fun h q x => h1.mo h (fun _ _ ⟨e, o, z, ez, p⟩ => ⟨e, o, z, ez, q _ _ p⟩) x⟩
def rIsX (K : PySem.W.Frag) (C a : Addr) (d : Option Addr) : List V → Hp → VK → Prop := fun xs H Q => ∃ (c : V) (dd : Addr) (fs : List (Str × V)), xs = [.ref a, c] ∧ d = some dd ∧ H dd = some (.xd fs) ∧
  ((∃ (cv : Value) (b : Bool), (∀ u, RelV c u → u = cv) ∧ PySem.W.kitOne K (.ref C) cv = some b ∧ Q (.bl b) H) ∨
   ∃ (tp : Addr) (o : Obj) (cs : List V) (vs : List Value) (b : Bool), c = .ref tp ∧ H tp = some (.frz o (.tup cs)) ∧ (∀ us, Vals cs us → us = vs) ∧ PySem.W.kitAny K (.ref C) vs = some b ∧ Q (.bl b) H)
theorem call_isX {X : Cx} {a C : Addr} {oe : Obj} {d : Option Addr} {pn : List (Addr × Obj)} (T : XCl X.K C) (hz : Zc (.ref C) d oe) (hf : ∃ vs, oe.data = .fields vs) : CallR (X.suite a ((a, oe) :: pn)) (.builtin "isinstance") (rIsX X.K C a d) := by
  intro pins s σ H xs us Q I r h
  obtain ⟨c, dd, fs, rfl, rfl, hdd, h⟩ := h
  cases r with
  | cons rx rr =>
    cases rr with
    | cons rt rr =>
      cases rr
      cases rx
      obtain ⟨hget, _⟩ := I.pin (a, oe) (List.mem_append.mpr (.inl List.mem_cons_self))
      obtain ⟨vs, hv⟩ := hf
      have hx : ObjOk X.prog X.w H s.heap dd (.xd fs) := I.hok dd _ hdd
      obtain ⟨mA, hns, hr⟩ := hx
      obtain ⟨od, ho, hl⟩ := lookIn_ns hns
      have Ji : PySem.W.InstAt s.heap a oe C (some od) := ⟨hget, hz.1, by unfold PySem.W.notCls; rw [hv] <;> rfl, by rw [hz.2]; exact ho⟩
      have Z : PySem.W.KitX X.K (.ref a) (.ref C) (fun h => PySem.W.InstAt h a oe C (some od)) := PySem.W.kitx_exc T.isSome T.ga T.gg T.exC T.ha T.hn T.ht T.hm
      rcases h with ⟨cv, b, hcv, e, q⟩ | ⟨tp, o, cs, vs', b, rfl, htp, hvs, e, q⟩
      · have ec := hcv _ rt
        subst ec
        exact PySem.W.kia_one Z I.kIn Ji e (fun z => nomatch z) fun tk => ⟨.bl b, H, I.kept (t' := tk) fun _ _ z => z, rfl, q⟩
      · cases rt
        obtain ⟨its, rv, ⟨o2, ho2, hc2, n2, hd2⟩, _⟩ := I.tuple (xs := cs) (.inl (.inr ⟨o, htp⟩))
        have ev := hvs _ rv
        subst ev
        obtain ⟨oc, odd, oda, osl⟩ := o2
        dsimp only at hc2 hd2
        subst hc2 hd2
        exact PySem.W.kia_tup Z I.kIn Ji ho2 e (fun z => nomatch z) fun tk => ⟨.bl b, H, I.kept (t' := tk) fun _ _ z => z, rfl, q⟩
section
variable {S : Js J} {B : Bs} {M : Nat → Bool} {W : WX} {X : Cx} {e : Expr} {pos p p2 : Pos} {fe : Ev J} {x : Str} {a : Addr} {oe : Obj} {ex : Ex} {d : Option Addr} {pn : List (Addr × Obj)}
variable {mg : Str → Option Value} {tT : Nat → Nat → Bool} {n : Nat} {names : List (Str × Nat)} {attrs : List Str}
theorem exr_at (hx : ExR S B.F0 ex (.ref (S.xc ex.c)) d) {z : D} (hz : ex.d = some z) {g : Gh} {H : Hp} {j : J} (ok : OkB S B g H j) : ∃ dd v, d = some dd ∧ H dd = some (.xd [(S.xf ex.c, v)]) ∧ Rp S g.F z v := by
  obtain ⟨_, h2⟩ := hx
  rw [hz] at h2
  obtain ⟨dd, v, h3, h4, h5⟩ := h2
  exact ⟨dd, v, h3, ok.gh _ _ (ok.fg _ _ (ok.f0 _ _ h4)), h5.mono ok.f0⟩
/-- class names as values -/
theorem pac_nil : PA X [] (fun _ H Q => Q [] H) := pa_nil
theorem pac_cons {te : Expr} {es : List Expr} {v : V} {vs : List V} (h : PE X te (tC v)) (r : PA X es (fun _ H Q => Q vs H)) (hs : starEach (te :: es) X.env = (false, eval te X.env) :: starEach es X.env := by rfl) : PA X (te :: es) (fun _ H Q => Q (v :: vs) H) :=
  PA.imp (pa_cons h r hs) fun _ _ _ h => h
theorem isX0 {v : V} {cv : Value} {b : Bool} {te : Expr} (T : XCl S.K (S.xc ex.c)) (hK : X.K = S.K) (hz : Zc (.ref (S.xc ex.c)) d oe) (hf : ∃ vs, oe.data = .fields vs) (hx : ExR S B.F0 ex (.ref (S.xc ex.c)) d)
    (hm : X.mg "isinstance" = none) (hcl : PE (X.suite a ((a, oe) :: pn)) te (tC v)) (hrel : ∀ u, RelV v u → u = cv) (hkit : PySem.W.kitOne S.K (.ref (S.xc ex.c)) cv = some b) (he : PE (X.suite a ((a, oe) :: pn)) e (rdE S B M W .clean fe)) (hg : Gl X "isinstance")
    (hs : starEach [e, te] X.env = (false, eval e X.env) :: starEach [te] X.env) (hs1 : starEach [te] X.env = [(false, eval te X.env)]) (hpl : (backTo pos (starEach [te] X.env)).any (·.1) = false) :
    PE (X.suite a ((a, oe) :: pn)) (.Call (.Name "isinstance" p) [e, te] [] pos) (rdE S B M W .clean (eIsX a b ex.d fe)) :=
  PE.imp (pe_callB (call_isX (hK ▸ T) hz hf) hg hm (by decide +kernel) (pa_cons he (pa_cons hcl pa_nil hs1) hs) (by decide) (by decide) hs hpl) fun r H Q ⟨g, m, j, P, E, ok, hf, q, xo⟩ => by
    refine ⟨g, m, j, _, E, ok, hf, fun d1 j1 g1 v1 H1 hh l1 ok1 w1 => ?_, xo⟩
    obtain ⟨rfl, ⟨z, hz⟩, pp⟩ := hh
    obtain ⟨dd, y, h3, h4, h5⟩ := exr_at hx hz ok1.b
    cases w1
    exact ⟨v, dd, _, rfl, h3, h4, .inl ⟨cv, b, hrel, hK ▸ hkit, q _ _ g1 _ H1 pp l1 ok1 (.bl _)⟩⟩
theorem isXn {k : Nat} (hX : XT S.K X.mg S.xc tT n names attrs) (hk : (x, k) ∈ names) (hK : X.K = S.K) (hz : Zc (.ref (S.xc ex.c)) d oe) (hf : ∃ vs, oe.data = .fields vs) (hx : ExR S B.F0 ex (.ref (S.xc ex.c)) d)
    (hm : X.mg "isinstance" = none) (he : PE (X.suite a ((a, oe) :: pn)) e (rdE S B M W .clean fe)) (hg : Gl X "isinstance" := by rfl) (hgx : Gl X x := by rfl) (hdb : (x == ("__debug__" : Str)) = false := by decide)
    (hs : starEach [e, .Name x p2] X.env = (false, eval e X.env) :: starEach [.Name x p2] X.env := by rfl) (hs1 : starEach [.Name x p2] X.env = [(false, eval (.Name x p2) X.env)] := by rfl) (hpl : (backTo pos (starEach [.Name x p2] X.env)).any (·.1) = false := by rfl) :
    PE (X.suite a ((a, oe) :: pn)) (.Call (.Name "isinstance" p) [e, .Name x p2] [] pos) (rdE S B M W .clean (eIsX a (tT ex.c k) ex.d fe)) :=
  isX0 (v := .ref (S.xc k)) (cv := .ref (S.xc k)) (hX.cl _) hK hz hf hx hm (pe_glob (X := X.suite a ((a, oe) :: pn)) hgx (hX.gl _ hk).1 rfl hdb) (fun u h => h) (hX.kit _ (hX.gl _ hk).2) he hg hs hs1 hpl
theorem isXv (hX : XT S.K X.mg S.xc tT n names attrs) (hK : X.K = S.K) (hz : Zc (.ref (S.xc ex.c)) d oe) (hf : ∃ vs, oe.data = .fields vs) (hx : ExR S B.F0 ex (.ref (S.xc ex.c)) d)
    (hm : X.mg "isinstance" = none) (hv : X.mg "ValueError" = none) (he : PE (X.suite a ((a, oe) :: pn)) e (rdE S B M W .clean fe)) (hg : Gl X "isinstance" := by rfl) (hgx : Gl X "ValueError" := by rfl)
    (hs : starEach [e, .Name "ValueError" p2] X.env = (false, eval e X.env) :: starEach [.Name "ValueError" p2] X.env := by rfl) (hs1 : starEach [.Name "ValueError" p2] X.env = [(false, eval (.Name "ValueError" p2) X.env)] := by rfl) (hpl : (backTo pos (starEach [.Name "ValueError" p2] X.env)).any (·.1) = false := by rfl) :
    PE (X.suite a ((a, oe) :: pn)) (.Call (.Name "isinstance" p) [e, .Name "ValueError" p2] [] pos) (rdE S B M W .clean (eIsX a true ex.d fe)) :=
  isX0 (v := .ty "ValueError") (cv := .type "ValueError") (hX.cl _) hK hz hf hx hm (pe_bltn (X := X.suite a ((a, oe) :: pn)) hgx hv PyProof.Rows.Boot.«ValueError» rfl) (fun u h => h) (hX.kitV _) he hg hs hs1 hpl
theorem XT.any {K : PySem.W.Frag} {mg : Str → Option Value} {xc : Nat → Addr} (T : XT K mg xc tT n names attrs) (c : Nat) : ∀ ks : List Nat, (∀ k ∈ ks, k < n) → PySem.W.kitAny K (.ref (xc c)) (ks.map fun k => .ref (xc k)) = some (ks.any (tT c))
  | [], _ => rfl
  | k :: ks, h => by
    rw [List.map_cons, List.any_cons]
    unfold PySem.W.kitAny
    rw [T.kit c (h k List.mem_cons_self)]
    cases tT c k with
    | true => rfl
    | false => exact T.any c ks fun y hy => h y (List.mem_cons_of_mem _ hy)
theorem vals_refs {xc : Nat → Addr} : ∀ (ks : List Nat) (us : List Value), Vals (ks.map fun k => V.ref (xc k)) us → us = ks.map fun k => .ref (xc k)
  | [], _, h => by cases h; rfl
  | k :: ks, _, h => by
    cases h with
    | cons h1 h2 => rw [vals_refs ks _ h2]; obtain rfl := h1; rfl
/-- isinstance(x, (C, D)) -/
theorem isXt {es : List Expr} {k1 : Nat} {pt : Pos} (ks : List Nat) (hX : XT S.K X.mg S.xc tT n names attrs) (hks : ∀ k ∈ ks, k < n) (hK : X.K = S.K) (hz : Zc (.ref (S.xc ex.c)) d oe) (hf : ∃ vs, oe.data = .fields vs) (hx : ExR S B.F0 ex (.ref (S.xc ex.c)) d)
    (hm : X.mg "isinstance" = none) (he : PE (X.suite a ((a, oe) :: pn)) e (rdE S B M W .clean fe)) (hcl : PA (X.suite a ((a, oe) :: pn)) es (fun _ H Q => Q (ks.map fun k => V.ref (S.xc k)) H)) (hlen : ks.length ≤ 1000 := by decide) (hg : Gl X "isinstance" := by rfl)
    (hs : starEach [e, .Tuple es k1 pt] X.env = (false, eval e X.env) :: starEach [.Tuple es k1 pt] X.env := by rfl) (hs1 : starEach [.Tuple es k1 pt] X.env = [(false, eval (.Tuple es k1 pt) X.env)] := by rfl) (hpl : (backTo pos (starEach [.Tuple es k1 pt] X.env)).any (·.1) = false := by rfl) :
    PE (X.suite a ((a, oe) :: pn)) (.Call (.Name "isinstance" p) [e, .Tuple es k1 pt] [] pos) (rdE S B M W .clean (eIsX a (ks.any (tT ex.c)) ex.d fe)) :=
  PE.imp (pe_callB (call_isX (hK ▸ hX.cl ex.c) hz hf) hg hm (by decide +kernel) (pa_cons he (pa_cons (pe_tupF hcl) pa_nil hs1) hs) (by decide) (by decide) hs hpl) fun r H Q ⟨g, m, j, P, E, ok, hf, q, xo⟩ => by
    refine ⟨g, m, j, _, E, ok, hf, fun d1 j1 g1 v1 H1 hh l1 ok1 w1 => ?_, xo⟩
    obtain ⟨rfl, ⟨z, hz⟩, pp⟩ := hh
    cases w1
    refine ⟨by rw [List.length_map, sizeLine_eq]; omega, fun tp o ntp hdo => ?_⟩
    obtain ⟨n1, n2, n3, n4⟩ := ok1.b.hn ntp
    have l2 : Le g1 (g1.frz tp (.frz o (.tup (ks.map fun k => V.ref (S.xc k))))) := Le.frz ok1.b.fg n2
    have ok2 := ok1.b.frz (.frz o (.tup (ks.map fun k => V.ref (S.xc k)))) ntp
    obtain ⟨dd, y, h3, h4, h5⟩ := exr_at hx hz ok2
    exact ⟨_, dd, _, rfl, h3, h4, .inr ⟨tp, o, _, ks.map fun k => .ref (S.xc k), _, rfl, upd_same, fun us hus => vals_refs ks us hus, hK ▸ hX.any ex.c ks hks, q _ _ _ _ _ pp (l1.trans l2) ⟨ok2, ok1.s.le l2⟩ (.bl _)⟩⟩
theorem clN {k : Nat} (hX : XT S.K X.mg S.xc tT n names attrs) (hk : (x, k) ∈ names) (hgx : Gl X x := by rfl) (hdb : (x == ("__debug__" : Str)) = false := by decide) : PE (X.suite a ((a, oe) :: pn)) (.Name x p2) (tC (.ref (S.xc k))) :=
  pe_glob (X := X.suite a ((a, oe) :: pn)) hgx (hX.gl _ hk).1 rfl hdb
/-- x.f -/
theorem xF {f : Str} (hX : XT S.K X.mg S.xc tT n names attrs) (hf' : f ∈ attrs) (hK : X.K = S.K) (hz : Zc (.ref (S.xc ex.c)) d oe) (hf : ∃ vs, oe.data = .fields vs) (hx : ExR S B.F0 ex (.ref (S.xc ex.c)) d) (he : PE (X.suite a ((a, oe) :: pn)) e (rdE S B M W .clean fe)) (hb : attributeBase e f X.env (eval e X.env) = eval e X.env := by rfl) :
    PE (X.suite a ((a, oe) :: pn)) (.Attribute e f pos) (rdE S B M W .clean (eXf a (S.xf ex.c = f) ex.d fe)) :=
  PE.imp (pe_xf (C := S.xc ex.c) (by rw [hK]; exact ⟨(hX.cl _).ga, (hX.cl _).gg, (hX.cl _).exC, (hX.cl _).hdC⟩) (by rw [hK]; exact hX.no f hf' _) hz hf he hb) fun r H Q ⟨g, m, j, P, E, ok, hf, q, xo⟩ => by
    refine ⟨g, m, j, _, E, ok, hf, fun d1 j1 g1 v1 H1 hh l1 ok1 w1 => ?_, xo⟩
    obtain ⟨rfl, rfl, z, hz, pp⟩ := hh
    obtain ⟨dd, y, h3, h4, h5⟩ := exr_at hx hz ok1.b
    cases w1
    exact ⟨rfl, rfl, dd, _, y, h3, h4, by simp [List.lookup], q _ _ g1 y H1 pp l1 ok1 h5⟩
end
/-! ### dicts with nothing or one pair of constants -/
section
variable {S : Js J} {B : Bs} {M : Nat → Bool} {W : WX} {X : Cx} {pos p1 p2 : Pos} {x : Str} {i : Int} {k1 k2 : Nat}
theorem dct0 : PE X (.Dict [] [] pos) (rdE S B M W .fresh (eC (.dct []))) :=
  PE.imp pe_dnewK fun r H Q ⟨g, m, j, P, E, ok, hf, q, xo⟩ p np => by
    obtain ⟨n1, n2, n3, n4⟩ := ok.b.hn np
    have l2 : Le g (g.see p (.dK [])) := Le.see n2
    exact q _ _ _ _ _ hf l2 ⟨ok.b.see _ np, ok.s.le l2⟩ ⟨p, rfl, n2, n1, .inr ⟨[], [], rfl, upd_same, rfl, .nil⟩⟩
theorem dct1 : PE X (.Dict [some (.Constant (.str x) k1 p1)] [.Constant (.int i) k2 p2] pos) (rdE S B M W .fresh (eC (.dct [(.inr x, .int i)]))) :=
  PE.imp (pe_disp (pps_cons (pe_str (x := x) (j := k1) (pos := p1)) (pe_int (i := i) (j := k2) (pos := p2)) pps_nil) rfl rfl (by simp) (by simp)) fun r H Q ⟨g, m, j, P, E, ok, hf, q, xo⟩ p np => by
    obtain ⟨n1, n2, n3, n4⟩ := ok.b.hn np
    refine ⟨upd_same, [(.inr x, .int i)], rfl, by simp, ?_⟩
    rw [upd_upd]
    have l2 : Le g (g.see p (.dK [(.inr x, .int i)])) := Le.see n2
    exact q _ _ _ _ _ hf l2 ⟨ok.b.see _ np, ok.s.le l2⟩ ⟨p, rfl, n2, n1, .inr ⟨[(.inr x, .int i)], [(.inr x, .int i)], rfl, upd_same, rfl, .cons (.int _) .nil⟩⟩
end
/-! ### step by step -/
section
variable {f : Ev J} {fb : Sv J} {fs : Addr → Ex → Sv J} {m : Sd} {j : J} {P : D → J → Prop} {PS : Fl → Sd → J → Prop} {E : XP J} {c i : Nat} {a : Addr} {b : Bool} {y : Option D} {ok : Prop} {cat : Nat → Bool}
@[simp ↓] theorem a_raise : sRaise c f m j PS E = f m j (fun d j1 => E ⟨c, some d⟩ m j1) E := rfl
@[simp ↓] theorem a_isx : eIsX a b y f m j P E = f m j (fun d j1 => d = .obj a ∧ (∃ z, y = some z) ∧ P (.bl b) j1) E := rfl
@[simp ↓] theorem a_xf : eXf a ok y f m j P E = f m j (fun d j1 => d = .obj a ∧ ok ∧ ∃ z, y = some z ∧ P z j1) E := rfl
@[simp ↓] theorem a_try : sTry i cat fb fs m j PS E = fb m j PS (fun e m' j' => if cat e.c = true then ∀ a, fs a e (m'.set i (some (.obj a))) j' (fun l m2 j2 => PS l (m2.set i none) j2) (fun _ _ _ => False) else E e m' j') := rfl
end
/-! ### xs == [], xs != [], whatever the items are -/
def eqLD (x y : D) : Option D := match x, y with | .lst (_ :: _), .lst [] => some (.bl false) | x, y => eqD x y
def neLD (x y : D) : Option D := match x, y with | .lst (_ :: _), .lst [] => some (.bl true) | x, y => neD x y
def rLn (K : PySem.W.Frag) (b : Bool) : R2 := fun x y H Q => ∃ a c xs, x = .ref a ∧ y = .ref c ∧ SqL K H a xs ∧ SqL K H c [] ∧ xs ≠ [] ∧ Q (.bl b) H
section
variable {S : Js J} {X : Cx}
theorem ln_lists {pins : List (Addr × Obj)} {σ : St} {H : Hp} {s : Shared} {a c : Addr} {xs : List V} (I : Inv X pins σ H s) (ha : SqL X.K H a xs) (hc : SqL X.K H c []) (hx : xs ≠ []) :
    ∃ i1 i2 : Array Value, s.heap.IsList a i1 ∧ s.heap.IsList c i2 ∧ (i1.size != i2.size) = true := by
  obtain ⟨its, r, ⟨o, n, e1, e2, _, e3⟩, _⟩ := I.list ha
  obtain ⟨its', r', ⟨o', n', f1, f2, _, f3⟩, _⟩ := I.list hc
  cases r'
  refine ⟨its.toArray, _, ⟨o, e1, e2, n, e3⟩, ⟨o', f1, f2, n', f3⟩, ?_⟩
  have := r.length
  have h0 : 0 < xs.length := List.length_pos_iff.mpr hx
  simp only [List.size_toArray, List.length_nil, bne_iff_ne, ne_eq]
  omega
theorem op_eqLn (hu : X.A.units + 64 < cLine) : OpR X (compareOp .Eq) (rLn X.K false) := by
  intro pins s σ H x y v u Q I rx ry h
  obtain ⟨a, c, xs, rfl, rfl, ha, hc, hx, q⟩ := h
  obtain ⟨i1, i2, h1, h2, h3⟩ := ln_lists I ha hc hx
  cases rx; cases ry
  exact SeqAt.RcAt.lists_lengths h1 h2 h3 (by omega) _ _ _ _ ⟨.bl _, H, I, rfl, q⟩
theorem op_neLn (hu : X.A.units + 64 < cLine) : OpR X (compareOp .NotEq) (rLn X.K true) := by
  intro pins s σ H x y v u Q I rx ry h
  obtain ⟨a, c, xs, rfl, rfl, ha, hc, hx, q⟩ := h
  obtain ⟨i1, i2, h1, h2, h3⟩ := ln_lists I ha hc hx
  cases rx; cases ry
  exact SeqAt.RcNeAt.lists_lengths h1 h2 h3 (by omega) _ _ _ _ ⟨.bl _, H, I, rfl, q⟩
theorem kEqL (hK : X.K = S.K) (hu : X.A.units + 64 < cLine) : OpR X (compareOp .Eq) (fun x y H Q => rEqE S.K x y H Q ∨ rLn S.K false x y H Q) := (kEq hK hu).or (hK ▸ op_eqLn hu)
theorem kNeL (hK : X.K = S.K) (hu : X.A.units + 64 < cLine) : OpR X (compareOp .NotEq) (fun x y H Q => rNeE S.K x y H Q ∨ rLn S.K true x y H Q) := (kNe hK hu).or (hK ▸ op_neLn hu)
theorem s_eqL : OpS S (fun x y H Q => rEqE S.K x y H Q ∨ rLn S.K false x y H Q) eqLD false .clean := by
  intro B g H j d1 d2 d v1 v2 Q ok h1 h2 e q
  unfold eqLD at e
  split at e
  · cases e
    cases h1 with
    | lst e1 r1 =>
      cases h2 with
      | lst e2 r2 =>
        cases r2
        refine .inr ⟨_, _, _, rfl, rfl, SqL.of (ok.gh _ _ e1), SqL.of (ok.gh _ _ e2), fun z => ?_, q g _ H (Le.refl g) ok (.bl _)⟩
        rw [z] at r1; cases r1
  · exact .inl (s_eq B g H j _ _ d v1 v2 Q ok h1 h2 e q)
theorem s_neL : OpS S (fun x y H Q => rNeE S.K x y H Q ∨ rLn S.K true x y H Q) neLD false .clean := by
  intro B g H j d1 d2 d v1 v2 Q ok h1 h2 e q
  unfold neLD at e
  split at e
  · cases e
    cases h1 with
    | lst e1 r1 =>
      cases h2 with
      | lst e2 r2 =>
        cases r2
        refine .inr ⟨_, _, _, rfl, rfl, SqL.of (ok.gh _ _ e1), SqL.of (ok.gh _ _ e2), fun z => ?_, q g _ H (Le.refl g) ok (.bl _)⟩
        rw [z] at r1; cases r1
  · exact .inl (s_ne B g H j _ _ d v1 v2 Q ok h1 h2 e q)
end
@[simp] theorem eqL_n {xs : List D} : eqLD (.lst xs) (.lst []) = some (.bl xs.isEmpty) := by
  cases xs with
  | nil => exact (show eqD (.lst []) (.lst []) = some (.bl true) from rfl)
  | cons x r => rfl
@[simp] theorem neL_n {xs : List D} : neLD (.lst xs) (.lst []) = some (.bl (!xs.isEmpty)) := by
  cases xs with
  | nil => exact (show neD (.lst []) (.lst []) = some (.bl false) from rfl)
  | cons x r => rfl
end Mp

namespace Mp
open PySem PySem.Spec L2
open PyProof.Rows hiding St
abbrev ZR (h : Heap) (z TI TO : Addr) (f0 f1 : Value) : Prop := h.get? z = some { cls := .type "zip", dict := none, data := .fields #[f0, f1, .bool false, .ref TI, .ref TO], slots := #[] }
def Fo (f : Value) : Prop := f = .none ∨ ∃ a : Nat, f = rawInt (a : Int)
section
variable {prog : Program} {w : World} {A : Around} {E : Value → Shared → Prop} {s : Shared}
theorem la_ok {a : Addr} {Q : Option Obj → Shared → Prop} (h : Q (s.heap.get? a) s) : wpAny (model prog w) A (loadIfAlive a) Q E s := by
  unfold loadIfAlive
  intro p
  simp only [Sem.wp_loadIfAlive]
  exact wpAny_pure h p
theorem zn_free {z TI TO : Addr} {f0 f1 : Value} {Q : Bool → Shared → Prop} (hz : ZR s.heap z TI TO f0 f1) (hf : Fo f0) (h1 : Q true s) (h2 : ∀ h', ZR h' z TI TO f0 (.bool true) → Heap.SameBut z s.heap h' → Q false { s with heap := h' }) :
    wpAny (model prog w) A (Builtin.SmallTypes.ownedTupleIsFree (.ref z)) Q E s := by
  unfold Builtin.SmallTypes.ownedTupleIsFree
  refine wpAny_bind (wpAny_field hz rfl (x := f0) rfl ?_)
  rcases hf with rfl | ⟨a, rfl⟩
  · exact wpAny_pure h1
  · show wpAny (model prog w) A (loadIfAlive ((a : Int).toNat) >>= _) _ _ _
    rw [Int.toNat_natCast]
    refine wpAny_bind (la_ok ?_)
    cases hg : s.heap.get? a with
    | none => exact wpAny_pure h1
    | some o =>
      simp only [Option.isNone_some, Bool.false_eq_true, if_false]
      refine wpAny_bind (wpAny_field hz rfl (x := f1) rfl ?_)
      by_cases e : f1 = .bool true
      · subst e
        rw [if_neg (by simp)]
        exact wpAny_pure (h2 s.heap hz (Heap.SameBut.refl _ _))
      · rw [if_pos (by simpa using e)]
        refine wpAny_bind (wpAny_setField_rec hz (by simp) fun h' hz' hs' => ?_)
        exact wpAny_pure (h2 h' hz' hs')
theorem zn_item {z TI TO i1 i2 l1 l2 : Addr} {k1 k2 : Nat} {xs ys : Array Value} {x y a b f0 f1 : Value} {Q : Value → Shared → Prop} (D : ZipApart z TI TO i1 i2 l1 l2) (hz : ZR s.heap z TI TO f0 f1) (hf : Fo f0) (hTI : IsPair s.heap TI (.ref i1) (.ref i2)) (hTO : IsPair s.heap TO a b)
    (h1 : s.heap.IsListIter i1 l1 k1) (h2 : s.heap.IsListIter i2 l2 k2) (hl1 : s.heap.IsList l1 xs) (hl2 : s.heap.IsList l2 ys) (hx : xs[k1]? = some x) (hy : ys[k2]? = some y)
    (hQ : ∀ h' g0 g1, Fo g0 → ZR h' z TI TO g0 g1 → (∃ c d, IsPair h' TO c d) → h'.IsListIter i1 l1 (k1 + 1) → h'.IsListIter i2 l2 (k2 + 1) → IsPair h' s.heap.objs.size x y → h'.objs.size = s.heap.objs.size + 1 →
      (∀ c o, c ≠ z → c ≠ TO → c ≠ i1 → c ≠ i2 → s.heap.get? c = some o → h'.get? c = some o) → Q (.ref s.heap.objs.size) { s with heap := h' }) :
    wpAny (model prog w) A (Builtin.«zip.__next__» ⟨[.ref z], []⟩) (fun fin s' => ∃ v, fin = .done (.ret v) ∧ Q v s') E s := by
  show wpAny (model prog w) A (field (.ref z) 2 >>= _) _ _ _
  refine wpAny_bind (wpAny_field hz rfl (x := .bool false) rfl ?_)
  show wpAny (model prog w) A (field (.ref z) 3 >>= _) _ _ _
  refine wpAny_bind (wpAny_field hz rfl (x := .ref TI) rfl (wpAny_bind (wpAny_seqItems hTI rfl ?_)))
  show wpAny (model prog w) A (Builtin.SmallTypes.ownedTupleIsFree (.ref z) >>= _) _ _ _
  refine wpAny_bind (zn_free hz hf ?_ fun h0 hz0 hs0 => ?_)
  · simp only [if_true]
    refine wpAny_bind (wpAny_rule (wpAny_bind (wpAny_field hz rfl (x := .ref TO) rfl (wpAny_bind (wpAny_setField_rec hz (by simp) fun g1 hz1 hs1 => ?_)))))
    replace hz1 : ZR g1 z TI TO .ellipsis f1 := hz1
    refine wpAny_bind ?_
    simp only [List.zipIdx_cons, List.zipIdx_nil, List.forIn_cons, List.forIn_nil]
    refine wpAny_bind (wpAny_bind (wpAny_onRaise ?_))
    show wpAny (model prog w) A (Builtin.SmallTypes.nextOf (.ref i1) >>= _) _ _ _
    refine wpAny_bind (wpAny_nextOf_list_item (s := { s with heap := g1 }) (h1.extBut hs1.extBut D.i1z) (hl1.extBut hs1.extBut D.l1z) hx fun g2 h12 hs2 => wpAny_pure ?_)
    have hTO2 : IsPair g2 TO a b := hs2.extBut _ _ D.TOi1 (hs1.extBut _ _ D.TOz hTO)
    refine wpAny_bind (wpAny_seqItems hTO2 rfl (wpAny_bind (wpAny_updateSeq_pair (s := { s with heap := g2 }) hTO2 fun g3 hTO3 hs3 => ?_)))
    replace hTO3 : IsPair g3 TO x b := hTO3
    refine wpAny_bind (wpAny_letGo (wpAny_pure (wpAny_bind (wpAny_bind (wpAny_onRaise ?_)))))
    show wpAny (model prog w) A (Builtin.SmallTypes.nextOf (.ref i2) >>= _) _ _ _
    refine wpAny_bind (wpAny_nextOf_list_item (s := { s with heap := g3 }) (((h2.extBut hs1.extBut D.i2z).extBut hs2.extBut D.i12.symm).extBut hs3.extBut D.TOi2.symm) (((hl2.extBut hs1.extBut D.l2z).extBut hs2.extBut D.l2i1).extBut hs3.extBut D.l2TO) hy fun g4 h24 hs4 => wpAny_pure ?_)
    have hTO4 : IsPair g4 TO x b := hs4.extBut _ _ D.TOi2 hTO3
    refine wpAny_bind (wpAny_seqItems hTO4 rfl (wpAny_bind (wpAny_updateSeq_pair (s := { s with heap := g4 }) hTO4 fun g5 hTO5 hs5 => ?_)))
    replace hTO5 : IsPair g5 TO x y := hTO5
    refine wpAny_bind (wpAny_letGo (wpAny_pure (wpAny_pure (wpAny_bind (wpAny_seqItems hTO5 rfl (wpAny_bind (wpAny_newTuple ?_)))))))
    have sz : g5.objs.size = s.heap.objs.size := by rw [hs5.1, hs4.1, hs3.1, hs2.1, hs1.1]
    have hz5 : ZR g5 z TI TO .ellipsis f1 := hs5.extBut _ _ D.TOz.symm (hs4.extBut _ _ D.i2z.symm (hs3.extBut _ _ D.TOz.symm (hs2.extBut _ _ D.i1z.symm hz1)))
    have keep : ∀ c o, c ≠ z → c ≠ TO → c ≠ i1 → c ≠ i2 → s.heap.get? c = some o → g5.get? c = some o := fun c o c1 c2 c3 c4 e => hs5.extBut _ _ c2 (hs4.extBut _ _ c4 (hs3.extBut _ _ c2 (hs2.extBut _ _ c3 (hs1.extBut _ _ c1 e))))
    have h15 : g5.IsListIter i1 l1 (k1 + 1) := ((h12.extBut hs3.extBut D.TOi1.symm).extBut hs4.extBut D.i12).extBut hs5.extBut D.TOi1.symm
    have h25 : g5.IsListIter i2 l2 (k2 + 1) := h24.extBut hs5.extBut D.TOi2.symm
    have zlt : z < g5.objs.size := Heap.lt_size hz5
    show wpAny (model prog w) A (Builtin.SmallTypes.ownedTupleHandOut (.ref z) (.ref g5.objs.size) >>= _) _ _ _
    refine wpAny_bind ?_
    unfold Builtin.SmallTypes.ownedTupleHandOut
    have hz6 : ZR (g5.push { cls := .type "tuple", data := .seq #[x, y] }) z TI TO .ellipsis f1 := Heap.get?_push_of_some _ hz5
    refine wpAny_bind (wpAny_setField_rec hz6 (by simp) fun g7 hz7 hs7 => ?_)
    replace hz7 : ZR g7 z TI TO (rawInt g5.objs.size) f1 := hz7
    refine wpAny_setField_rec hz7 (by simp) fun g8 hz8 hs8 => ?_
    replace hz8 : ZR g8 z TI TO (rawInt g5.objs.size) (.bool false) := hz8
    have up : ∀ c o, c ≠ z → g5.get? c = some o → g8.get? c = some o := fun c o c1 e => hs8.extBut _ _ c1 (hs7.extBut _ _ c1 (Heap.get?_push_of_some _ e))
    have hT8 : IsPair g8 g5.objs.size x y := hs8.extBut _ _ (Nat.ne_of_gt zlt) (hs7.extBut _ _ (Nat.ne_of_gt zlt) (Heap.get?_push_size _ rfl))
    have sz8 : g8.objs.size = g5.objs.size + 1 := by rw [hs8.1, hs7.1, Heap.size_push]
    refine wpAny_pure ⟨_, rfl, ?_⟩
    show Q (.ref g5.objs.size) { s with heap := g8 }
    rw [sz] at hz8 hT8 sz8 ⊢
    exact hQ g8 _ _ (.inr ⟨_, rfl⟩) hz8 ⟨x, y, up _ _ D.TOz hTO5⟩ (h15.at fun o e => up _ o D.i1z e) (h25.at fun o e => up _ o D.i2z e) hT8 sz8 fun c o c1 c2 c3 c4 e => up c o c1 (keep c o c1 c2 c3 c4 e)
  · simp only [Bool.false_eq_true, if_false]
    refine wpAny_bind ?_
    rw [← Array.forIn_toList]
    simp only [List.forIn_cons, List.forIn_nil]
    refine wpAny_bind (wpAny_bind (wpAny_holding ?_))
    show wpAny (model prog w) A (Builtin.SmallTypes.nextOf (.ref i1) >>= _) _ _ _
    refine wpAny_bind (wpAny_nextOf_list_item (s := { s with heap := h0 }) (h1.extBut hs0.extBut D.i1z) (hl1.extBut hs0.extBut D.l1z) hx fun g1 h1' hs1 => wpAny_pure ?_)
    refine wpAny_pure (wpAny_bind (wpAny_bind (wpAny_holding ?_)))
    show wpAny (model prog w) A (Builtin.SmallTypes.nextOf (.ref i2) >>= _) _ _ _
    refine wpAny_bind (wpAny_nextOf_list_item (s := { s with heap := g1 }) ((h2.extBut hs0.extBut D.i2z).extBut hs1.extBut D.i12.symm) ((hl2.extBut hs0.extBut D.l2z).extBut hs1.extBut D.l2i1) hy fun g2 h2' hs2 => wpAny_pure ?_)
    refine wpAny_pure (wpAny_pure ?_)
    refine wpAny_bind (wpAny_newTuple (hsz := show 2 ≤ sizeLine by decide) ?_)
    have sz : g2.objs.size = s.heap.objs.size := by rw [hs2.1, hs1.1, hs0.1]
    have keep : ∀ c o, c ≠ z → c ≠ i1 → c ≠ i2 → s.heap.get? c = some o → g2.get? c = some o := fun c o c1 c2 c3 e => hs2.extBut _ _ c3 (hs1.extBut _ _ c2 (hs0.extBut _ _ c1 e))
    have hz2 : ZR g2 z TI TO f0 (.bool true) := hs2.extBut _ _ D.i2z.symm (hs1.extBut _ _ D.i1z.symm hz0)
    refine wpAny_pure ⟨_, rfl, ?_⟩
    show Q (.ref g2.objs.size) { s with heap := g2.push { cls := .type "tuple", data := .seq #[x, y] } }
    have pz : IsPair (g2.push { cls := .type "tuple", data := .seq #[x, y] }) g2.objs.size x y := Heap.get?_push_size _ rfl
    have ps : (g2.push { cls := .type "tuple", data := .seq #[x, y] }).objs.size = s.heap.objs.size + 1 := by rw [Heap.size_push, sz]
    rw [sz] at pz ⊢
    exact hQ _ f0 (.bool true) hf (Heap.get?_push_of_some _ hz2) ⟨a, b, Heap.get?_push_of_some _ (keep _ _ D.TOz D.TOi1 D.TOi2 hTO)⟩ ((h1'.extBut hs2.extBut D.i12).at fun o e => Heap.get?_push_of_some _ e) (h2'.at fun o e => Heap.get?_push_of_some _ e) pz ps fun c o c1 _ c3 c4 e => Heap.get?_push_of_some _ (keep c o c1 c3 c4 e)
theorem zn_end {z TI TO i1 i2 l1 l2 : Addr} {k1 k2 : Nat} {xs ys : Array Value} {a b f0 f1 : Value} {Q : Fin → Shared → Prop} (hh : A.handled = none) (D : ZipApart z TI TO i1 i2 l1 l2) (hz : ZR s.heap z TI TO f0 f1) (hf : Fo f0) (hTI : IsPair s.heap TI (.ref i1) (.ref i2)) (hTO : IsPair s.heap TO a b)
    (h1 : s.heap.IsListIter i1 l1 k1) (h2 : s.heap.IsListIter i2 l2 k2) (hl1 : s.heap.IsList l1 xs) (hl2 : s.heap.IsList l2 ys) (hend : xs[k1]? = none ∨ ys[k2]? = none)
    (hE : ∀ h' e, (∀ c o, c ≠ z → c ≠ TO → c ≠ i1 → c ≠ i2 → s.heap.get? c = some o → h'.get? c = some o) → (∃ o, h'.get? e = some o ∧ o.cls = .type "StopIteration") → E (.ref e) { s with heap := h' }) :
    wpAny (model prog w) A (Builtin.«zip.__next__» ⟨[.ref z], []⟩) Q E s := by
  show wpAny (model prog w) A (field (.ref z) 2 >>= _) _ _ _
  refine wpAny_bind (wpAny_field hz rfl (x := .bool false) rfl ?_)
  show wpAny (model prog w) A (field (.ref z) 3 >>= _) _ _ _
  refine wpAny_bind (wpAny_field hz rfl (x := .ref TI) rfl (wpAny_bind (wpAny_seqItems hTI rfl ?_)))
  show wpAny (model prog w) A (Builtin.SmallTypes.ownedTupleIsFree (.ref z) >>= _) _ _ _
  refine wpAny_bind (zn_free hz hf ?_ fun h0 hz0 hs0 => ?_)
  · simp only [if_true]
    refine wpAny_bind (wpAny_rule (wpAny_bind (wpAny_field hz rfl (x := .ref TO) rfl (wpAny_bind (wpAny_setField_rec hz (by simp) fun g1 hz1 hs1 => ?_)))))
    replace hz1 : ZR g1 z TI TO .ellipsis f1 := hz1
    refine wpAny_bind ?_
    simp only [List.zipIdx_cons, List.zipIdx_nil, List.forIn_cons, List.forIn_nil]
    refine wpAny_bind (wpAny_bind (wpAny_onRaise ?_))
    show wpAny (model prog w) A (Builtin.SmallTypes.nextOf (.ref i1) >>= _) _ _ _
    cases hx : xs[k1]? with
    | none =>
      refine wpAny_bind (wpAny_nextOf_list_end (s := { s with heap := g1 }) hh (h1.extBut hs1.extBut D.i1z) (hl1.extBut hs1.extBut D.l1z) hx fun g2 e hs2 he => ?_)
      obtain ⟨oe, hoe, hce⟩ := he
      have hz2 : ZR g2 z TI TO .ellipsis f1 := hs2 _ _ D.i1z.symm hz1
      have hez : e ≠ z := fun q => by subst q; rw [hz2] at hoe; cases hoe; simp at hce
      exact wpAny_setField_rec hz2 (by simp) fun g3 _ hs3 => hE g3 e (fun c o c1 _ c3 _ q => hs3.extBut _ _ c1 (hs2 _ _ c3 (hs1.extBut _ _ c1 q))) ⟨oe, hs3.extBut _ _ hez hoe, hce⟩
    | some x =>
      have hy : ys[k2]? = none := hend.resolve_left (by rw [hx]; simp)
      refine wpAny_bind (wpAny_nextOf_list_item (s := { s with heap := g1 }) (h1.extBut hs1.extBut D.i1z) (hl1.extBut hs1.extBut D.l1z) hx fun g2 h12 hs2 => wpAny_pure ?_)
      have hTO2 : IsPair g2 TO a b := hs2.extBut _ _ D.TOi1 (hs1.extBut _ _ D.TOz hTO)
      refine wpAny_bind (wpAny_seqItems hTO2 rfl (wpAny_bind (wpAny_updateSeq_pair (s := { s with heap := g2 }) hTO2 fun g3 hTO3 hs3 => ?_)))
      refine wpAny_bind (wpAny_letGo (wpAny_pure (wpAny_bind (wpAny_bind (wpAny_onRaise ?_)))))
      show wpAny (model prog w) A (Builtin.SmallTypes.nextOf (.ref i2) >>= _) _ _ _
      refine wpAny_bind (wpAny_nextOf_list_end (s := { s with heap := g3 }) hh (((h2.extBut hs1.extBut D.i2z).extBut hs2.extBut D.i12.symm).extBut hs3.extBut D.TOi2.symm) (((hl2.extBut hs1.extBut D.l2z).extBut hs2.extBut D.l2i1).extBut hs3.extBut D.l2TO) hy fun g4 e hs4 he => ?_)
      obtain ⟨oe, hoe, hce⟩ := he
      have hz4 : ZR g4 z TI TO .ellipsis f1 := hs4 _ _ D.i2z.symm (hs3.extBut _ _ D.TOz.symm (hs2.extBut _ _ D.i1z.symm hz1))
      have hez : e ≠ z := fun q => by subst q; rw [hz4] at hoe; cases hoe; simp at hce
      exact wpAny_setField_rec hz4 (by simp) fun g5 _ hs5 => hE g5 e (fun c o c1 c2 c3 c4 q => hs5.extBut _ _ c1 (hs4 _ _ c4 (hs3.extBut _ _ c2 (hs2.extBut _ _ c3 (hs1.extBut _ _ c1 q))))) ⟨oe, hs5.extBut _ _ hez hoe, hce⟩
  · simp only [Bool.false_eq_true, if_false]
    refine wpAny_bind ?_
    rw [← Array.forIn_toList]
    simp only [List.forIn_cons, List.forIn_nil]
    refine wpAny_bind (wpAny_bind (wpAny_holding ?_))
    show wpAny (model prog w) A (Builtin.SmallTypes.nextOf (.ref i1) >>= _) _ _ _
    cases hx : xs[k1]? with
    | none => exact wpAny_bind (wpAny_nextOf_list_end (s := { s with heap := h0 }) hh (h1.extBut hs0.extBut D.i1z) (hl1.extBut hs0.extBut D.l1z) hx fun g2 e hs2 he => hE g2 e (fun c o c1 _ c3 _ q => hs2 _ _ c3 (hs0.extBut _ _ c1 q)) he)
    | some x =>
      have hy : ys[k2]? = none := hend.resolve_left (by rw [hx]; simp)
      refine wpAny_bind (wpAny_nextOf_list_item (s := { s with heap := h0 }) (h1.extBut hs0.extBut D.i1z) (hl1.extBut hs0.extBut D.l1z) hx fun g1 h1' hs1 => wpAny_pure ?_)
      refine wpAny_pure (wpAny_bind (wpAny_bind (wpAny_holding ?_)))
      show wpAny (model prog w) A (Builtin.SmallTypes.nextOf (.ref i2) >>= _) _ _ _
      exact wpAny_bind (wpAny_nextOf_list_end (s := { s with heap := g1 }) hh ((h2.extBut hs0.extBut D.i2z).extBut hs1.extBut D.i12.symm) ((hl2.extBut hs0.extBut D.l2z).extBut hs1.extBut D.l2i1) hy fun g2 e hs2 he => hE g2 e (fun c o c1 _ c3 c4 q => hs2 _ _ c4 (hs1.extBut _ _ c3 (hs0.extBut _ _ c1 q))) he)
/-! ### zip(a, b), a name as target -/
theorem nx_item {z TI TO i1 i2 l1 l2 : Addr} {k1 k2 : Nat} {xs ys : Array Value} {x y a b f0 f1 : Value} {Q : Option Value → Shared → Prop} (D : ZipApart z TI TO i1 i2 l1 l2) (hz : ZR s.heap z TI TO f0 f1) (hf : Fo f0) (hTI : IsPair s.heap TI (.ref i1) (.ref i2)) (hTO : IsPair s.heap TO a b)
    (h1 : s.heap.IsListIter i1 l1 k1) (h2 : s.heap.IsListIter i2 l2 k2) (hl1 : s.heap.IsList l1 xs) (hl2 : s.heap.IsList l2 ys) (hx : xs[k1]? = some x) (hy : ys[k2]? = some y)
    (hQ : ∀ h' g0 g1, Fo g0 → ZR h' z TI TO g0 g1 → (∃ c d, IsPair h' TO c d) → h'.IsListIter i1 l1 (k1 + 1) → h'.IsListIter i2 l2 (k2 + 1) → IsPair h' s.heap.objs.size x y → h'.objs.size = s.heap.objs.size + 1 →
      (∀ c o, c ≠ z → c ≠ TO → c ≠ i1 → c ≠ i2 → s.heap.get? c = some o → h'.get? c = some o) → Q (some (.ref s.heap.objs.size)) { s with heap := h' }) : wpAny (model prog w) A (pyNext (.ref z)) Q E s := by
  have ty : s.TypeIs (.ref z) "zip" := ⟨_, hz, rfl⟩
  unfold pyNext
  exact wpAny_bind (wpAny_attempt (wpAny_callSpecial?_slot (name := Str.ofString "__next__") ty F.slot_zip_next (wpAny_call_entry F.slot_zip_next ty F.entry_zip_next (zn_item D hz hf hTI hTO h1 h2 hl1 hl2 hx hy fun h' g0 g1 b0 b1 b2 b3 b4 b5 b6 b7 => wpAny_pure (hQ h' g0 g1 b0 b1 b2 b3 b4 b5 b6 b7)) (F.args_zip_next_1 _))))
theorem nx_end {z TI TO i1 i2 l1 l2 : Addr} {k1 k2 : Nat} {xs ys : Array Value} {a b f0 f1 : Value} {Q : Option Value → Shared → Prop} (hh : A.handled = none) (D : ZipApart z TI TO i1 i2 l1 l2) (hz : ZR s.heap z TI TO f0 f1) (hf : Fo f0) (hTI : IsPair s.heap TI (.ref i1) (.ref i2)) (hTO : IsPair s.heap TO a b)
    (h1 : s.heap.IsListIter i1 l1 k1) (h2 : s.heap.IsListIter i2 l2 k2) (hl1 : s.heap.IsList l1 xs) (hl2 : s.heap.IsList l2 ys) (hend : xs[k1]? = none ∨ ys[k2]? = none)
    (hQ : ∀ h', (∀ c o, c ≠ z → c ≠ TO → c ≠ i1 → c ≠ i2 → s.heap.get? c = some o → h'.get? c = some o) → Q none { s with heap := h' }) : wpAny (model prog w) A (pyNext (.ref z)) Q E s := by
  have ty : s.TypeIs (.ref z) "zip" := ⟨_, hz, rfl⟩
  unfold pyNext
  refine wpAny_bind (wpAny_attempt (wpAny_callSpecial?_slot (name := Str.ofString "__next__") ty F.slot_zip_next (wpAny_call_entry F.slot_zip_next ty F.entry_zip_next (zn_end hh D hz hf hTI hTO h1 h2 hl1 hl2 hend fun h' e hk he => ?_) (F.args_zip_next_1 _))))
  obtain ⟨o, ho, hc⟩ := he
  exact wpAny_bind (wpAny_isInstance (T := "StopIteration") (b := true) ⟨o, ho, hc⟩ isSubtype_stop (wpAny_pure (hQ _ hk)))
theorem zn_iter {z TI TO : Addr} {f0 f1 : Value} {Q : Value → Shared → Prop} (hz : ZR s.heap z TI TO f0 f1) (h : Q (.ref z) s) : wpAny (model prog w) A (pyIter (.ref z)) Q E s := by
  have ty : s.TypeIs (.ref z) "zip" := ⟨_, hz, rfl⟩
  exact wpAny_pyIter_slot ty F.slot_zip_iter (wpAny_call_entry F.slot_zip_iter ty F.entry_zip_iter (wpAny_pure ⟨_, rfl, "zip", _, ty, F.slot_zip_next.lookup, h⟩) (F.args_zip_iter_1 _))
end
def ItzN (K : PySem.W.Frag) (a b : Addr) : It :=
  ⟨fun i H => ∃ (xs ys : List V) (x y : V), SqL K H a xs ∧ SqL K H b ys ∧ xs[i]? = some x ∧ ys[i]? = some y,
   fun i H v H' => ∃ T o x y, v = .ref T ∧ H T = none ∧ o.dict = none ∧ H' = upd H T (.frz o (.tup [x, y])) ∧ (∀ xs, SqL K H a xs → xs[i]? = some x) ∧ ∀ ys, SqL K H b ys → ys[i]? = some y,
   fun i H => ∃ xs ys : List V, SqL K H a xs ∧ SqL K H b ys ∧ (xs.length ≤ i ∨ ys.length ≤ i)⟩
theorem turn_zipN {P : Program} {w : World} {K : PySem.W.Frag} {nm : Str} {tpos : Pos} {a b z TI TO i1 i2 : Addr} (D : ZipApart z TI TO i1 i2 a b) :
    Turn P w K (.Name nm tpos) (ItzN K a b) [z, TI, TO, i1, i2] z (fun i h => (∃ f0 f1, Fo f0 ∧ ZR h z TI TO f0 f1) ∧ IsPair h TI (.ref i1) (.ref i2) ∧ (∃ x y, IsPair h TO x y) ∧ h.IsListIter i1 a i ∧ h.IsListIter i2 b i) where
  mem := by simp
  obj := fun i h ⟨⟨f0, f1, _, hz⟩, hTI, ⟨x, y, hTO⟩, ⟨o1, e1, _, d1⟩, ⟨o2, e2, _, d2⟩⟩ c hc => by
    have e' : c = z ∨ c = TI ∨ c = TO ∨ c = i1 ∨ c = i2 := by simpa using hc
    rcases e' with q | q | q | q | q <;> rw [q]
    · exact ⟨_, hz, fun v q => nomatch q⟩
    · exact ⟨_, hTI, fun v q => nomatch q⟩
    · exact ⟨_, hTO, fun v q => nomatch q⟩
    · exact ⟨o1, e1, fun v q => by rw [d1] at q; cases q⟩
    · exact ⟨o2, e2, fun v q => by rw [d2] at q; cases q⟩
  keep := fun i h h' ⟨⟨f0, f1, hf, hz⟩, hTI, ⟨x, y, hTO⟩, h1, h2⟩ k => ⟨⟨f0, f1, hf, k z (by simp) _ hz⟩, k TI (by simp) _ hTI, ⟨x, y, k TO (by simp) _ hTO⟩, h1.at fun o q => k i1 (by simp) o q, h2.at fun o q => k i2 (by simp) o q⟩
  item := by
    intro X hP hw hK hc i pins s σ H E I hf st hg
    subst hP hw hK
    obtain ⟨⟨f0, f1, ho, hz⟩, hTI, ⟨x0, y0, hTO⟩, h1, h2⟩ := st
    obtain ⟨xs, ys, x, y, hqx, hqy, hx, hy⟩ := hg
    obtain ⟨its, rv, p, _⟩ := I.list hqx
    obtain ⟨its2, rv2, p2, _⟩ := I.list hqy
    obtain ⟨u, hu, ru⟩ := rv.get hx
    obtain ⟨u2, hu2, ru2⟩ := rv2.get hy
    refine nx_item D hz ho hTI hTO h1 h2 p.isList p2.isList (x := u) (y := u2) (by simpa using hu) (by simpa using hu2) fun h' g0 g1 g2 z' TO' h1' h2' hT hsz hk => ?_
    refine ⟨_, rfl, ?_⟩
    show wpAny (model X.prog X.w) X.A (pure ()) _ _ _
    refine wpAny_pure ?_
    have new : ObjOk X.prog X.w (upd H s.heap.objs.size (.frz { cls := .type "tuple", data := .seq #[u, u2] } (.tup [x, y]))) h' s.heap.objs.size (.frz { cls := .type "tuple", data := .seq #[u, u2] } (.tup [x, y])) := ⟨hT, by show 2 ≤ sizeLine; decide, [u, u2], .cons ru (.cons ru2 .nil), ⟨_, hT, rfl, _, rfl⟩⟩
    have I1 : Inv X pins σ (upd H s.heap.objs.size (.frz { cls := .type "tuple", data := .seq #[u, u2] } (.tup [x, y]))) { s with heap := h' } :=
      I.turnedNew (t' := s.toks) (ch := [z, TI, TO, i1, i2]) (fun c o hb q => hk c o (fun q' => hb (by simp [q'])) (fun q' => hb (by simp [q'])) (fun q' => hb (by simp [q'])) (fun q' => hb (by simp [q'])) q) hf (Nat.le_refl _) new
    refine ⟨.ref s.heap.objs.size, _, I1, rfl, ⟨_, _, x, y, rfl, I.hok.fresh (Nat.le_refl _), rfl, rfl, fun l hl => by rw [I.list_inj hl hqx]; exact hx, fun l hl => by rw [I.list_inj hl hqy]; exact hy⟩, ⟨⟨g0, g1, g2, z'⟩, hk _ _ D.TIz D.TITO D.TIi1 D.TIi2 hTI, TO', h1', h2'⟩, fun c hcm => ?_⟩
    have hlt : c < s.heap.objs.size := by
      have e' : c = z ∨ c = TI ∨ c = TO ∨ c = i1 ∨ c = i2 := by simpa using hcm
      rcases e' with q | q | q | q | q <;> rw [q]
      · exact Heap.lt_size hz
      · exact Heap.lt_size hTI
      · exact Heap.lt_size hTO
      · obtain ⟨_, e1, _⟩ := h1; exact Heap.lt_size e1
      · obtain ⟨_, e2, _⟩ := h2; exact Heap.lt_size e2
    rw [upd_ne (Nat.ne_of_lt hlt)]
    exact (hf c hcm).1
  done := by
    intro X hP hw hK hc i pins s σ H E I hf st hg
    subst hP hw hK
    obtain ⟨⟨f0, f1, ho, hz⟩, hTI, ⟨x0, y0, hTO⟩, h1, h2⟩ := st
    obtain ⟨xs, ys, hqx, hqy, hend⟩ := hg
    obtain ⟨its, rv, p, _⟩ := I.list hqx
    obtain ⟨its2, rv2, p2, _⟩ := I.list hqy
    have l1 := rv.length
    have l2 := rv2.length
    have he : its.toArray[i]? = none ∨ its2.toArray[i]? = none := hend.imp (fun q => by simp; omega) fun q => by simp; omega
    exact nx_end (I.ok.hd hc) D hz ho hTI hTO h1 h2 p.isList p2.isList he fun h' hk => ⟨rfl, I.turnedL (t' := s.toks) (ch := [z, TI, TO, i1, i2]) (fun c o hb q => hk c o (fun q' => hb (by simp [q'])) (fun q' => hb (by simp [q'])) (fun q' => hb (by simp [q'])) (fun q' => hb (by simp [q'])) q) hf⟩
  self := fun A i s Q E ⟨⟨f0, f1, _, hz⟩, _⟩ h => zn_iter hz h
def iZipN (K : PySem.W.Frag) (ta : TA) : TI := fun σ H R => ta σ H fun vs H1 => ∃ a b xs ys, vs = [.ref a, .ref b] ∧ SqL K H1 a xs ∧ SqL K H1 b ys ∧ R (ItzN K a b) H1
theorem pi_zipN {X : Cx} {e e2 : Expr} {ta : TA} {p pos tpos : Pos} {nm : Str} (hg : Gl X "zip") (hm : X.mg "zip" = none) (ha : PA X [e, e2] ta) (hs : starEach [e, e2] X.env = (false, eval e X.env) :: starEach [e2] X.env := by rfl) (hpl : (backTo pos (starEach [e2] X.env)).any (·.1) = false := by rfl) :
    PI X (.Name nm tpos) (.Call (.Name "zip" p) [e, e2] [] pos) (iZipN X.K ta) := by
  refine ⟨fun pins s σ H R I h => Call_ (ld_blt I hg hm PyProof.Rows.boot_zip (PyProof.Rows.callWith_type1 (thn (ha.run pos pins s σ H _ I h) fun us s1 ⟨vs, H1, I1, r1, q1⟩ => ?_) hs hpl))⟩
  obtain ⟨a, b, xs, ys, rfl, hqx, hqy, q⟩ := q1
  cases r1 with
  | cons r rr =>
    cases rr with
    | cons r' rr =>
      cases rr; cases r; cases r'
      obtain ⟨its, rv, p1, _⟩ := I1.list hqx
      obtain ⟨its2, rv2, p2, _⟩ := I1.list hqy
      refine call_zip_2 p1.isList p2.isList fun h' hz hTI hTO h1 h2 hsz hk => wpAny_pyIter_zip hz ?_
      refine ⟨s1.heap.objs.size + 4, [s1.heap.objs.size + 4, s1.heap.objs.size + 2, s1.heap.objs.size + 3, s1.heap.objs.size, s1.heap.objs.size + 1], _, _, H1, rfl, I1.kept (t' := s1.toks) hk, turn_zipN (PySem.W.ktu_apart s1.heap.objs.size a b p1.lt p2.lt), ⟨⟨.none, .bool false, .inl rfl, hz⟩, hTI, ⟨_, _, hTO⟩, h1, h2⟩, fun c hcm => ?_, q⟩
      have hle : s1.heap.objs.size ≤ c := by
        have e' : c = s1.heap.objs.size + 4 ∨ c = s1.heap.objs.size + 2 ∨ c = s1.heap.objs.size + 3 ∨ c = s1.heap.objs.size ∨ c = s1.heap.objs.size + 1 := by simpa using hcm
        rcases e' with q' | q' | q' | q' | q' <;> rw [q'] <;> first | exact Nat.le_add_right _ _ | exact Nat.le_refl _
      exact I1.fpOk hle (I1.hok.fresh hle)

/-! ### enumerate(t), t a tuple -/
section
theorem en_new (l : Addr) (items : Array Value) : Meets (Builtin.«enumerate.__new__» ⟨[.type "enumerate", .ref l], []⟩) (fun _ R s => s.heap.IsTuple l items ∧
      R (.ok (.ret (.ref (s.heap.push { cls := .type "tuple_iterator", data := .fields #[.ref l, .int 0 0] }).objs.size))) { s with heap := (s.heap.push { cls := .type "tuple_iterator", data := .fields #[.ref l, .int 0 0] }).push { cls := .type "enumerate", data := .fields #[.none, .bool false, .ref s.heap.objs.size, rawInt 0, .none, .none] } }) :=
  .of_wp fun prog w A R s h => by
    obtain ⟨hp, g, d, tk, os⟩ := s
    obtain ⟨h1, h⟩ := h
    have hsub := sub_enumerate
    have q1 : ∀ {A' : Around} {E : Value → Shared → Prop} {Q : Value → Shared → Prop}, Q (.ref hp.objs.size) ⟨hp.push { cls := .type "tuple_iterator", data := .fields #[.ref l, .int 0 0] }, g, d, tk, os⟩ → wpAny (model prog w) A' (pyIter (.ref l)) Q E ⟨hp, g, d, tk, os⟩ := fun q => (begins_tuple l items).iter prog w _ _ ⟨hp, g, d, tk, os⟩ _ h1 q
    wp_walk using q1
    refine wpAny_stack_any fun st => wpAny_pure ?_
    split
    · rename_i c _ _ _ _ _
      cases (c == Value.type "enumerate") <;> (wp_walk using q1) <;> exact ⟨_, rfl, h⟩
    · wp_walk using q1
      exact ⟨_, rfl, h⟩
end
section
variable {prog : Program} {w : World} {A : Around} {E : Value → Shared → Prop} {s : Shared}
theorem call_enT {l : Addr} {items : Array Value} {Q : Value → Shared → Prop} (hL : s.heap.IsTuple l items) (h : ∀ h', IsEnum h' (s.heap.objs.size + 1) s.heap.objs.size 0 .none → h'.IsTupleIter s.heap.objs.size l 0 → (∀ b o, s.heap.get? b = some o → h'.get? b = some o) → Q (.ref (s.heap.objs.size + 1)) { s with heap := h' }) :
    wpAny (model prog w) A (call (.type "enumerate") [.ref l]) Q E s := by
  refine callType_new F.called_enumerate (by decide) (F.typeCall_enumerate_1 _) (F.newCall_enumerate_1 _) (fun obj => F.args_object_init_2 obj _) F.entry_enumerate_new (en_new l items) ⟨hL, ?_⟩
  have hz : (s.heap.push { cls := .type "tuple_iterator", data := .fields #[.ref l, .int 0 0] }).objs.size = s.heap.objs.size + 1 := Heap.size_push ..
  have he := Heap.get?_push_size (s.heap.push { cls := .type "tuple_iterator", data := .fields #[.ref l, .int 0 0] }) (o := { cls := .type "enumerate", data := .fields #[.none, .bool false, .ref s.heap.objs.size, rawInt 0, .none, .none] }) rfl
  show _ ∧ _
  rw [hz] at he ⊢
  exact ⟨⟨_, he, rfl⟩, h _ he ⟨_, Heap.get?_push_of_some _ (Heap.get?_push_size _ rfl), rfl, rfl⟩ fun b o x => Heap.get?_push_of_some _ (Heap.get?_push_of_some _ x)⟩
end
def IteT (K : PySem.W.Frag) (a : Addr) : It :=
  ⟨fun i H => ∃ (xs : List V) (x : V), SqT K H a xs ∧ xs[i]? = some x, fun i H v H' => ∃ T x, v = .ref T ∧ H T = none ∧ H' = upd H T (.tup [.int (i : Nat), x]) ∧ ∀ xs, SqT K H a xs → xs[i]? = some x, fun i H => ∃ xs : List V, SqT K H a xs ∧ xs.length = i⟩
theorem turn_enT {P : Program} {w : World} {K : PySem.W.Frag} {elts : List Expr} {kk : Nat} {tpos : Pos} (a e it : Addr) :
    Turn P w K (.Tuple elts kk tpos) (IteT K a) [e, it] e (fun i h => (∃ old, IsEnum h e it ((i : Nat) : Int) old) ∧ h.IsTupleIter it a i ∧ e ≠ it) where
  mem := by simp
  obj := fun i h ⟨⟨old, he⟩, ⟨o, ho, hc, hd⟩, _⟩ b hb => by
    have e' : b = e ∨ b = it := by simpa using hb
    rcases e' with z | z <;> rw [z]
    · exact ⟨_, he, fun v q => nomatch q⟩
    · exact ⟨o, ho, fun v q => by rw [hd] at q; cases q⟩
  keep := fun i h h' ⟨⟨old, he⟩, hi, hne⟩ k => ⟨⟨old, k e (by simp) _ he⟩, hi.at fun o q => k it (by simp) o q, hne⟩
  item := by
    intro X hP hw hK hc i pins s σ H E I hf st hg
    subst hP hw hK
    obtain ⟨⟨old, he⟩, hit, hne⟩ := st
    obtain ⟨xs, x, hq, hx⟩ := hg
    obtain ⟨its, rv, p, hz⟩ := I.tuple hq
    obtain ⟨u, hu, ru⟩ := rv.get hx
    have pt : s.heap.IsTuple a its.toArray := p
    obtain ⟨oa, ga, ca, na, da⟩ := pt
    obtain ⟨oi, gi, ci, di⟩ := hit
    have nae : a ≠ e := fun z => by rw [z] at ga; rw [he] at ga; cases ga; simp at ca
    have nai : a ≠ it := fun z => by rw [z, gi] at ga; cases ga; rw [ci] at ca; simp at ca
    have hel : e < s.heap.objs.size := Heap.lt_size he
    have hil : it < s.heap.objs.size := Heap.lt_size gi
    have hlt : i < its.toArray.size := by have := (List.getElem?_eq_some_iff.mp hu).1; simpa using this
    refine wpAny_pyNext_enum_itemD (Draws.tuple (A := X.A.in1) (I.ok.hd hc) it a nai its.toArray) he ⟨⟨oi, gi, ci, di⟩, ⟨oa, ga, ca, na, da⟩⟩ hlt hne (by simp [hne, Ne.symm nae]) fun u' h' tk hP' ho st' hT hsz hk => ?_
    have eu : u' = u := by
      have z : its.toArray[i]? = some u := by simpa using hu
      rw [z] at hP'; cases hP'; rfl
    subst eu
    refine ⟨_, rfl, wpAny_letOwnedTupleGo_enum (s := { s with heap := h', toks := tk + 1 }) ho fun h'' he' sb => ?_⟩
    have hT2 : h''.get? s.heap.objs.size = some { cls := .type "tuple", data := .seq #[.int i tk, u'] } := (sb.2 _ (Nat.ne_of_gt hel)).trans hT
    have new : ObjOk X.prog X.w (upd H s.heap.objs.size (.tup [.int (i : Nat), x])) h'' s.heap.objs.size (.tup [.int (i : Nat), x]) := ⟨by show 2 ≤ sizeLine; decide, [.int i tk, u'], .cons ⟨_, rfl⟩ (.cons ru .nil), ⟨_, hT2, rfl, _, rfl⟩⟩
    have I1 : Inv X pins σ (upd H s.heap.objs.size (.tup [.int (i : Nat), x])) { s with heap := h'', toks := tk + 1 } := I.turnedNew (ch := [e, it]) (fun b ob hb q => (sb.2 b (fun z => hb (by simp [z]))).trans (hk b ob (fun z => hb (by simp [z])) (fun z => hb (by simp [z])) q)) hf (Nat.le_refl _) new
    refine ⟨.ref s.heap.objs.size, _, I1, rfl, ⟨_, x, rfl, I.hok.fresh (Nat.le_refl _), rfl, fun ys hy => ?_⟩, ⟨⟨u', ?_⟩, st'.1.at fun o q => (sb.2 it (Ne.symm hne)).trans q, hne⟩, fun b hb => ?_⟩
    · rw [I.tuple_inj hy hq]; exact hx
    · have e1 : ((i + 1 : Nat) : Int) = (i : Int) + 1 := by omega
      rw [e1]; exact he'
    · have hb' : b < s.heap.objs.size := by
        have e' : b = e ∨ b = it := by simpa using hb
        rcases e' with z | z <;> rw [z]
        · exact hel
        · exact hil
      rw [upd_ne (Nat.ne_of_lt hb')]
      exact (hf b hb).1
  done := by
    intro X hP hw hK hc i pins s σ H E I hf st hg
    subst hP hw hK
    obtain ⟨⟨old, he⟩, hit, hne⟩ := st
    obtain ⟨xs, hq, hx⟩ := hg
    obtain ⟨its, rv, p, hz⟩ := I.tuple hq
    obtain ⟨f0, f1, f2, f3, f4, f5⟩ := hf it (by simp)
    have pt : s.heap.IsTuple a its.toArray := p
    obtain ⟨oa, ga, ca, na, da⟩ := pt
    obtain ⟨oi, gi, ci, di⟩ := hit
    have nai : a ≠ it := fun z => by rw [z, gi] at ga; cases ga; rw [ci] at ca; simp at ca
    have hn : its.toArray.size = i := by rw [List.size_toArray, ← rv.length, hx]
    exact wpAny_pyNext_enum_endD (Draws.tuple (A := X.A.in1) (I.ok.hd hc) it a nai its.toArray) he (by rw [hn]; exact ⟨⟨oi, gi, ci, di⟩, ⟨oa, ga, ca, na, da⟩⟩) fun h' eb => ⟨rfl, I.turned (t' := s.toks) (fun b o hb q => eb b o hb q) f0 f1 f3 f4 f5⟩
  self := fun A i s Q E ⟨⟨_, he⟩, _⟩ h => wpAny_pyIter_enum he h
variable {J : Type}
def iZpN (fa fb : Ev J) (m : Sd) (j : J) (P : List D → J → Prop) (E : XP J) : Prop := fa m j (fun x j1 => fb m j1 (fun y j2 => ∃ xs ys, x = .lst xs ∧ y = .lst ys ∧ P (zipD xs ys) j2) E) E
instance {fa fb : Ev J} [ha : MoE fa] [hb : MoE fb] : MoA (iZpN fa fb) := ⟨fun h q x => ha.mo h (fun _ _ h1 => hb.mo h1 (fun _ _ ⟨xs, ys, e1, e2, p⟩ => ⟨xs, ys, e1, e2, q _ _ p⟩) x) x⟩
section
variable {S : Js J} {B : Bs} {M : Nat → Bool} {W : WX} {X : Cx} {a b : Expr} {pos p tpos : Pos} {fa fb : Ev J} {nm : Str}
theorem i_zipN (hK : X.K = S.K) (hm : X.mg "zip" = none) (ha : PE X a (rdE S B M W .clean fa)) (hb : PE X b (rdE S B M W .clean fb)) (hg : Gl X "zip" := by rfl) (hs : starEach [a, b] X.env = (false, eval a X.env) :: starEach [b] X.env := by rfl) (hs2 : starEach [b] X.env = [(false, eval b X.env)] := by rfl) (hpl : (backTo pos (starEach [b] X.env)).any (·.1) = false := by rfl) :
    PI X (.Name nm tpos) (.Call (.Name "zip" p) [a, b] [] pos) (rdI S B M W true false (iZpN fa fb)) :=
  PI.imp (pi_zipN hg hm (pa_cons ha (pa_cons hb pa_nil hs2) hs) hs hpl) fun r H R ⟨g, m, j, P, E, ok, hf, q, xo⟩ => by
    refine ⟨g, m, j, _, E, ok, hf, fun x j1 g1 v H1 h1 l1 ok1 w => ⟨g1, m, _, _, E, ok1, h1, fun y j2 g2 v2 H2 ⟨xs, ys, e1, e2, p⟩ l2 ok2 w2 => ?_, xo.le l1.f⟩, xo⟩
    subst e1 e2
    obtain ⟨a, vs, rfl, ha, ra⟩ := lst_of (w.le l2)
    obtain ⟨b, ws, rfl, hb, rb⟩ := lst_of w2
    have fh := ok2.b.fg.trans ok2.b.gh
    refine ⟨a, b, vs, ws, rfl, .of (fh _ _ ha), .of (fh _ _ hb), q _ _ g2 H2 _ p (l1.trans l2) ok2 ?_⟩
    unfold WalkD
    rw [zipD_length, ra.length, rb.length]
    refine ⟨fun i H hi s => ?_, fun H s => ⟨vs, ws, .of (s _ _ ha), .of (s _ _ hb), by omega⟩, fun i H x H' hi s y => ?_⟩
    · have i1 : i < vs.length := by omega
      have i2 : i < ws.length := by omega
      exact ⟨vs, ws, vs[i], ws[i], .of (s _ _ ha), .of (s _ _ hb), by simp [i1], by simp [i2]⟩
    · obtain ⟨T, o, x1, y1, e1, e2, e0, e3, e4, e5⟩ := y
      obtain ⟨d1, h3, h4⟩ := ra.get' (e4 vs (.of (s _ _ ha)))
      obtain ⟨d2, h5, h6⟩ := rb.get' (e5 ws (.of (s _ _ hb)))
      exact ⟨_, zipD_get h3 h5, .inr (.inr ⟨T, o, _, _, e1, e2, e0, e3, rfl, .cons h4 (.cons h6 .nil)⟩)⟩
variable {m : Sd} {j : J} {PA : List D → J → Prop} {E : XP J}
@[simp ↓] theorem a_izn : iZpN fa fb m j PA E = fa m j (fun x j1 => fb m j1 (fun y j2 => ∃ xs ys, x = .lst xs ∧ y = .lst ys ∧ PA (zipD xs ys) j2) E) E := rfl
end
/-! ### enumerate(x), x a list or a tuple -/
def iEnB (K : PySem.W.Frag) (ta : TA) : TI := fun σ H R => ta σ H fun vs H1 => ∃ a xs, vs = [.ref a] ∧ ((SqL K H1 a xs ∧ R (Ite K a) H1) ∨ (SqT K H1 a xs ∧ R (IteT K a) H1))
theorem pi_enB {X : Cx} {e : Expr} {ta : TA} {p pos tpos : Pos} {elts : List Expr} {kk : Nat} (hg : Gl X "enumerate") (hm : X.mg "enumerate" = none) (ha : PA X [e] ta) (hs : starEach [e] X.env = [(false, eval e X.env)] := by rfl) :
    PI X (.Tuple elts kk tpos) (.Call (.Name "enumerate" p) [e] [] pos) (iEnB X.K ta) := by
  refine ⟨fun pins s σ H R I h => Call_ (ld_blt I hg hm boot_enumerate (PyProof.Rows.callWith_type1 (thn (ha.run pos pins s σ H _ I h) fun us s1 ⟨vs, H1, I1, r1, q1⟩ => ?_) hs rfl))⟩
  obtain ⟨a, xs, rfl, q1⟩ := q1
  have fp : ∀ b ∈ [s1.heap.objs.size + 1, s1.heap.objs.size], FpOk X pins H1 b := fun b hb => by
    have hle : s1.heap.objs.size ≤ b := by
      have e' : b = s1.heap.objs.size + 1 ∨ b = s1.heap.objs.size := by simpa using hb
      rcases e' with z | z <;> rw [z] <;> first | exact Nat.le_add_right _ _ | exact Nat.le_refl _
    exact I1.fpOk hle (I1.hok.fresh hle)
  cases r1 with
  | cons r rr =>
    cases rr; cases r
    rcases q1 with ⟨hq, q⟩ | ⟨hq, q⟩
    · obtain ⟨its, rv, p', hz⟩ := I1.list hq
      refine call_enumerate_list p'.isList fun h' he hit hsz hk => wpAny_pyIter_enum he ?_
      exact ⟨s1.heap.objs.size + 1, [s1.heap.objs.size + 1, s1.heap.objs.size], _, _, H1, rfl, I1.kept (t' := s1.toks) hk, turn_enum a (s1.heap.objs.size + 1) s1.heap.objs.size, ⟨⟨.none, he⟩, hit, Nat.succ_ne_self _⟩, fp, q⟩
    · obtain ⟨its, rv, p', hz⟩ := I1.tuple hq
      refine call_enT (show s1.heap.IsTuple a its.toArray from p') fun h' he hit hk => wpAny_pyIter_enum he ?_
      exact ⟨s1.heap.objs.size + 1, [s1.heap.objs.size + 1, s1.heap.objs.size], _, _, H1, rfl, I1.kept (t' := s1.toks) hk, turn_enT a (s1.heap.objs.size + 1) s1.heap.objs.size, ⟨⟨.none, he⟩, hit, Nat.succ_ne_self _⟩, fp, q⟩
def enO : D → Option (List D)
  | .lst xs => some (enumD xs)
  | .tup xs => some (enumD xs)
  | _ => none
def iEnmB (f : Ev J) (m : Sd) (j : J) (P : List D → J → Prop) (E : XP J) : Prop := f m j (fun d j1 => ∃ zs, enO d = some zs ∧ P zs j1) E
instance {f : Ev J} [ha : MoE f] : MoA (iEnmB f) := ⟨fun h q x => ha.mo h (fun _ _ ⟨b, e, p⟩ => ⟨b, e, q _ _ p⟩) x⟩
section
variable {S : Js J} {B : Bs} {M : Nat → Bool} {W : WX} {X : Cx} {a : Expr} {pos p tpos : Pos} {fa : Ev J} {elts : List Expr} {kk : Nat}
theorem i_enB (hK : X.K = S.K) (hm : X.mg "enumerate" = none) (ha : PE X a (rdE S B M W .clean fa)) (hg : Gl X "enumerate" := by rfl) (hs : starEach [a] X.env = [(false, eval a X.env)] := by rfl) :
    PI X (.Tuple elts kk tpos) (.Call (.Name "enumerate" p) [a] [] pos) (rdI S B M W true true (iEnmB fa)) :=
  PI.imp (pi_enB hg hm (pa_cons ha pa_nil hs) hs) fun r H R ⟨g, m, j, P, E, ok, hf, q, xo⟩ => by
    refine ⟨g, m, j, _, E, ok, hf, fun d j1 g1 v H1 ⟨zs, ed, p⟩ l1 ok1 w => ?_, xo⟩
    unfold enO at ed
    split at ed
    · cases ed
      obtain ⟨a, vs, rfl, ha, ra⟩ := lst_of w
      refine ⟨a, vs, rfl, .inl ⟨.of ((ok1.b.fg.trans ok1.b.gh) _ _ ha), q _ _ g1 H1 _ p l1 ok1 ?_⟩⟩
      unfold WalkD
      rw [enumD_length, ra.length]
      refine (walk_enum (K := X.K) (a := a) (xs := vs)).mono (fun H s => .of (s _ _ ha)) fun i H x H' hi _ y => ?_
      obtain ⟨T, x1, y1, e1, e2, e3, e4, e5⟩ := y
      obtain ⟨d, h2, h3⟩ := ra.get' e5
      cases e4
      exact ⟨_, enumD_get h2, .inr (.inl ⟨rfl, T, _, _, e1, e2, e3, rfl, .cons (.int _) (.cons h3 .nil)⟩)⟩
    · cases ed
      obtain ⟨a, vs, rfl, ha, ra⟩ := tup_of w
      have sq : ∀ H, Same (hp true g1) H → SqT X.K H a vs := fun H s => by rw [hK]; exact sqT_same s ha.t
      refine ⟨a, vs, rfl, .inr ⟨sq _ (ok1.b.fg.trans ok1.b.gh), q _ _ g1 H1 _ p l1 ok1 ?_⟩⟩
      unfold WalkD
      rw [enumD_length, ra.length]
      refine ⟨fun i H hi s => ⟨vs, vs[i], sq H s, by simp [hi]⟩, fun H s => ⟨vs, sq H s, rfl⟩, fun i H x H' hi s y => ?_⟩
      obtain ⟨T, x1, e1, e2, e3, e4⟩ := y
      obtain ⟨d, h2, h3⟩ := ra.get' (e4 vs (sq H s))
      exact ⟨_, enumD_get h2, .inr (.inl ⟨rfl, T, _, _, e1, e2, e3, rfl, .cons (.int _) (.cons h3 .nil)⟩)⟩
    · cases ed
variable {m : Sd} {j : J} {PA : List D → J → Prop} {E : XP J}
@[simp ↓] theorem a_ienb : iEnmB fa m j PA E = fa m j (fun d j1 => ∃ zs, enO d = some zs ∧ PA zs j1) E := rfl
@[simp] theorem en_l {xs : List D} : enO (.lst xs) = some (enumD xs) := rfl
@[simp] theorem en_t {xs : List D} : enO (.tup xs) = some (enumD xs) := rfl
end
end Mp

/-! NK: str(x). -/
namespace Mp
open PySem PySem.Spec L2
open PyProof.Rows hiding St
variable {J : Type}
def strD : D → Option Str
  | .str x => some x
  | d => reprD d
def strX : List D → Option D
  | [d] => match strD d with | some x => some (.str x) | none => none
  | _ => none
theorem py_str {d : D} {y : Str} (h : py d = some (.str y)) : ∃ z, d = .str z := by
  cases d with
  | str z => exact ⟨z, rfl⟩
  | _ => unfold py at h; first | cases h | (split at h <;> cases h)
def rStr (S : Js J) : List V → Hp → VK → Prop := fun vs H Q => ∃ G d v x, vs = [v] ∧ Same G H ∧ (∃ o u, H sysModules = some (.frz o u)) ∧ Rp S G d v ∧ strD d = some x ∧ Q (.str x) H
section
variable {S : Js J} {X : Cx} {ci : Bool}
theorem cr_str (hK : X.K = S.K) (hg : X.A.guards = some []) (hu : X.A.units + 64 < cLine) : CallR X (.type "str") (rStr S) := by
  intro pins s σ H vs us Q I r h
  obtain ⟨G, d, v, x, rfl, gh, sm, hr, e, q⟩ := h
  obtain ⟨u, rfl, r1⟩ := vals1 r
  unfold strD at e
  split at e
  · cases e
    cases hr
    obtain ⟨t, rfl⟩ := r1
    exact PySem.P.str_of_str ⟨.str _, H, I, ⟨t, rfl⟩, q⟩
  · unfold reprD at e
    rename_i hns
    split at e
    · rename_i p hp
      split at e
      · rename_i hc
        simp only [Bool.and_eq_true, decide_eq_true_eq] at hc
        cases e
        have hsz : p.shown.length ≤ sizeLine := Nat.le_trans hc.2 line_ok
        obtain ⟨as, h1, h2⟩ := reads_of I hK gh sm hr hp r1
        have fin : ∀ (h' : Heap) (t : Tok) (tk : Nat), (∀ b o, s.heap.get? b = some o → h'.get? b = some o) → EP X pins σ Q (.str p.shown t) { s with heap := h', toks := tk } := fun h' t tk hk => ⟨.str _, H, I.kept hk, ⟨t, rfl⟩, q⟩
        cases h1 with
        | none => exact PySem.P.str_of_none (fin s.heap _ _ fun _ _ z => z)
        | bool b => exact PySem.P.str_of_bool (fin s.heap _ _ fun _ _ z => z)
        | int i t => exact PySem.P.str_of_int (by simpa [PyData.showable] using hc.1.1) (fin s.heap _ _ fun _ _ z => z)
        | str y t =>
          obtain ⟨z, hz⟩ := py_str hp
          exact (hns _ hz).elim
        | list a1 a2 a3 a4 => exact str_of_reads (.list a1 a2 a3 a4) hc.1.1 (fun _ => h2) hg (by omega) (fun _ _ z => z) fin hsz
        | tuple a1 a2 a3 a4 => exact str_of_reads (.tuple a1 a2 a3 a4) hc.1.1 (fun _ => h2) hg (by omega) (fun _ _ z => z) fin hsz
        | dict a1 a2 a3 a4 a5 => exact str_of_reads (.dict a1 a2 a3 a4 a5) hc.1.1 (fun _ => h2) hg (by omega) (fun _ _ z => z) fin hsz
      · cases e
    · cases e
theorem s_strX : CallS S (rStr S) strX ci .clean := by
  intro B g H j ds d vs Q ok h e q
  unfold strX at e
  split at e
  · split at e
    · rename_i x hx
      cases e
      obtain ⟨v, rfl, k⟩ := one_of h
      exact ⟨_, _, v, x, rfl, ok.sub ci, ok.sm, k, hx, ans (B := B) ok q fun _ => .str _⟩
    · cases e
  · cases e
theorem bt_str' : bootBuiltins "str" = some (.type "str") := by decide +kernel
variable {B : Bs} {M : Nat → Bool} {W : WX} {e : Expr} {es : List Expr} {pos p : Pos} {fr : Av J}
theorem kStr (hK : X.K = S.K) (hgd : X.A.guards = some []) (hu : X.A.units + 64 < cLine) (hm : X.mg "str" = none) (ha : PA X (e :: es) (rdA S B M W ci fr)) (hg : Gl X "str" := by rfl) (he : starEach (e :: es) X.env = (false, eval e X.env) :: starEach es X.env := by rfl) (hpl : (backTo pos (starEach es X.env)).any (·.1) = false := by rfl) :
    PE X (.Call (.Name "str" p) (e :: es) [] pos) (rdE S B M W .clean (eB strX fr)) := kT (cr_str hK hgd hu) s_strX hm bt_str' ha hg (by decide) (by decide) he hpl
end
@[simp] theorem str_d {d : D} : strX [d] = match strD d with | some x => some (.str x) | none => none := rfl
end Mp

/-! OF: t == () whatever the items are. -/
namespace Mp
open PySem PySem.Spec L2
open PyProof.Rows hiding St
variable {J : Type}
def eqTD (x y : D) : Option D := match x, y with | .tup (_ :: _), .tup [] => some (.bl false) | x, y => eqD x y
def rTn (K : PySem.W.Frag) : R2 := fun x y H Q => ∃ a c xs, x = .ref a ∧ y = .ref c ∧ SqT K H a xs ∧ SqT K H c [] ∧ xs ≠ [] ∧ Q (.bl false) H
section
variable {S : Js J} {X : Cx}
theorem op_eqTn (hu : X.A.units + 64 < cLine) : OpR X (compareOp .Eq) (rTn X.K) := by
  intro pins s σ H x y v u Q I rx ry h
  obtain ⟨a, c, xs, rfl, rfl, ha, hc, hx, q⟩ := h
  cases rx; cases ry
  obtain ⟨its, r, t1, _⟩ := I.tuple ha
  obtain ⟨its', r', t2, _⟩ := I.tuple hc
  cases r'
  have h0 : 0 < xs.length := List.length_pos_iff.mpr hx
  have hl := r.length
  have := SeqAt.RcAt.tuples (A := X.A) (s := s) (items := its.toArray) (items2 := #[]) (e := fun _ => true) t1 t2 (by omega) (fun j h1 h2 => absurd h2 (by simp))
  have e : ((List.range (min its.toArray.size (#[] : Array Value).size)).all (fun _ => true) && its.toArray.size == (#[] : Array Value).size) = false := by
    simp
    intro z
    rw [z] at hl
    simp at hl
    exact hx hl
  rw [e] at this
  exact this _ _ _ _ ⟨.bl _, H, I, rfl, q⟩
theorem kEqT (hK : X.K = S.K) (hu : X.A.units + 64 < cLine) : OpR X (compareOp .Eq) (fun x y H Q => rEqE S.K x y H Q ∨ rTn S.K x y H Q) := (kEq hK hu).or (hK ▸ op_eqTn hu)
theorem s_eqT : OpS S (fun x y H Q => rEqE S.K x y H Q ∨ rTn S.K x y H Q) eqTD false .clean := by
  intro B g H j d1 d2 d v1 v2 Q ok h1 h2 e q
  unfold eqTD at e
  split at e
  · cases e
    obtain ⟨a, vs, rfl, ha, rl⟩ := tup_of h1
    obtain ⟨c, ws, rfl, hc, rm⟩ := tup_of h2
    cases rm
    refine .inr ⟨_, _, _, rfl, rfl, (ha.same ok.gh).t, (hc.same ok.gh).t, fun z => ?_, q g _ H (Le.refl g) ok (.bl _)⟩
    rw [z] at rl; cases rl
  · exact .inl (s_eq B g H j _ _ d v1 v2 Q ok h1 h2 e q)
end
@[simp] theorem eqT_n {xs : List D} : eqTD (.tup xs) (.tup []) = some (.bl xs.isEmpty) := by
  cases xs with
  | nil => exact (show eqD (.tup []) (.tup []) = some (.bl true) from rfl)
  | cons x r => rfl
end Mp

namespace Lw
open PySem PySem.Spec L2 Mp
open PyProof.Rows hiding St
def top (i : Nat) : Stmt := PySem.Challenge.pw_blockturns_k02_exchanges_judged.main.body.getD i (.Pass ⟨0, 0, 0, 0⟩)

def bnames : List Str := ["abs", "all", "bool", "enumerate", "int", "isinstance", "len", "list", "max", "range", "repr", "str", "sum", "tuple"]
def Blt (mg : Str → Option Value) : Prop := ∀ x ∈ bnames, mg x = none
theorem h_abs : ("abs" : Str) ∈ bnames := by decide +kernel
theorem h_all : ("all" : Str) ∈ bnames := by decide +kernel
theorem h_bool : ("bool" : Str) ∈ bnames := by decide +kernel
theorem h_enumerate : ("enumerate" : Str) ∈ bnames := by decide +kernel
theorem h_int : ("int" : Str) ∈ bnames := by decide +kernel
theorem h_isinstance : ("isinstance" : Str) ∈ bnames := by decide +kernel
theorem h_len : ("len" : Str) ∈ bnames := by decide +kernel
theorem h_list : ("list" : Str) ∈ bnames := by decide +kernel
theorem h_max : ("max" : Str) ∈ bnames := by decide +kernel
theorem h_range : ("range" : Str) ∈ bnames := by decide +kernel
theorem h_repr : ("repr" : Str) ∈ bnames := by decide +kernel
theorem h_str : ("str" : Str) ∈ bnames := by decide +kernel
theorem h_sum : ("sum" : Str) ∈ bnames := by decide +kernel
theorem h_tuple : ("tuple" : Str) ∈ bnames := by decide +kernel
def cnames : List (Str × Int) := [("MAX_BLOCKS", 6), ("MAX_PLACES", 1000000000000)]
def Cst (mg : Str → Option Value) : Prop := ∀ p ∈ cnames, ∃ t, mg p.1 = some (.int p.2 t)
theorem c_MAX_BLOCKS : (("MAX_BLOCKS", 6) : Str × Int) ∈ cnames := by decide +kernel
theorem c_MAX_PLACES : (("MAX_PLACES", 1000000000000) : Str × Int) ∈ cnames := by decide +kernel


/-! ### the source: opened, drawn from -/
abbrev st_opened : Stmt := top 9
theorem sc_opened : FnScope ["_law_script", "_law_cells", "_law_cell"] ["_law_script"] (defScope st_opened) := ⟨rfl, rfl, rfl, by decide +kernel, rfl, by decide +kernel, by decide +kernel⟩
theorem ok_opened {P : Program} {w : World} {K : PySem.W.Frag} {mg : Str → Option Value} {base : Heap} {f : Addr} {fd : FuncData} (hB : Blt mg) (F : L2.Fun K "_law_opened" "_law_opened" st_opened f fd) : FnG P w K mg base CX0 1 f fd ["_law_script"] (spOpen K) := by
  refine fnG_sp F sc_opened (fun vs H Q E h => ?_) (fun cdv A outer s H vs Q E hr hgd h => ⟨tOpened K, ?_, opened_pure rfl h⟩)
  · obtain ⟨_, _, rfl, _⟩ := h
    rfl
  · have hu := hr.units
    have nd := sc_opened.nd
    exact pss_cons (ps_setLc (i := 1) (own := [("_law_cell", 2)]) rfl nd rfl rfl rfl (pi_list (pe_slice sl_list (pv 0) po_none (po_some pe_int))) (blk_of ["_law_script", "_law_cells", "_law_cell"] (defScope st_opened) rfl rfl (by decide +kernel))
        (fun _ _ _ _ _ => pg_name (i := 2) nd rfl (Or.inl rfl)) (fun _ _ _ _ _ => pts_nil) (fun _ _ _ _ _ => pe_callB call_abs rfl (hB _ h_abs) bt_abs (pa_cons (pv 2) pa_nil)))
      (pss_one (ps_ret (pe_lst (pa_cons (pe_op op_cat (pv 1) (pe_op op_rep (pe_lst (pa_cons pe_int pa_nil)) (pe_callTy call_int1 rfl (hB _ h_int) bt_int (pa_cons (pe_cmpR (op_eqD hu) (pv 1) (pe_lst pa_nil) (nomark _)) pa_nil))))
        (pa_cons pe_int (pa_cons (pe_lc (own := [("_law_cell", 2)]) rfl nd (pi_list (pv 1)) (blk_of ["_law_script", "_law_cells", "_law_cell"] (defScope st_opened) rfl rfl (by decide +kernel))
          (fun _ _ _ _ _ => pg_name (i := 2) nd rfl (Or.inl rfl)) (fun _ _ _ _ _ => pts_one (pt_cmpR op_ge (pv 2) (pe_op op_pow pe_int pe_int) (nomark _))) (fun _ _ _ _ _ => pv 2)) pa_nil))))))
abbrev st_lift : Stmt := top 10
theorem sc_lift : FnScope ["_law_jar", "_law_many", "_law_cells", "_law_count", "_law_great", "_law_rest", "_law_seed"] ["_law_jar", "_law_many"] (defScope st_lift) := ⟨rfl, rfl, rfl, by decide +kernel, rfl, by decide +kernel, by decide +kernel⟩
theorem ok_lift {P : Program} {w : World} {K : PySem.W.Frag} {mg : Str → Option Value} {base : Heap} {cl xc : Nat → Addr} {xf : Nat → Str} {R f : Addr} {fd : FuncData} (hB : Blt mg) (F : L2.Fun K "_law_lift" "_law_lift" st_lift f fd) (hm : mg "_law_lift" = some (.ref f)) (hb : Binds K fd ["_law_jar", "_law_many"] []) : Cal (jsN K cl xc xf R) P w mg base 1 "_law_lift" 2 drawF := by
  refine ⟨⟨f, fd, ["_law_jar", "_law_many"], (fnG_sp F sc_lift (fun vs H Q E h => ?_) (fun cdv A outer s H vs Q E hr hgd h => ⟨tLift K, ?_, lift_pure rfl (draw_spec h)⟩)).ofN, hm, F.kp, hb⟩, fun ds j P E h => ?_⟩
  · obtain ⟨_, _, _, ds, _, _, _, _, _, _, rp, hl, _⟩ := h
    rw [← rp.length, hl]
    rfl
  · have hu := hr.units
    have nd := sc_lift.nd
    exact pss_cons (ps_asg (pv 0) (pg_unl rfl (pgs_cons (pg_name (i := 2) nd rfl (Or.inl rfl)) (pgs_cons (pg_name (i := 3) nd rfl (Or.inl rfl)) (pgs_cons (pg_name (i := 4) nd rfl (Or.inl rfl)) pgs_nil)))))
      (pss_cons (ps_asg (pe_op op_add (pv 3) pe_int) (pg_sub (pv 0) pe_int set_list))
      (pss_cons (ps_while PassesOwn.never (pt_cmpR (op_neD hu) (pv 4) (pe_lst pa_nil) (nomark _))
        (pss_cons (ps_set (i := 5) nd rfl (Or.inl rfl) (pe_bm0 PySem.F.plainAttrs_list PySem.F.slot_list_pop PySem.F.type_list_pop mt_pop (pv 4)))
          (pss_one (ps_if (pt_cmpR op_gt (pv 5) pe_int (nomark _)) (pss_cons (ps_expr (pe_bm PySem.F.plainAttrs_list PySem.F.slot_list_append PySem.F.type_list_append mt_append (pv 4) (pa_cons (pe_op op_fdivW (pv 5) (pv 1)) pa_nil))) (pss_one (ps_ret (pe_op op_mod (pv 5) (pv 1))))) pss_nil))))
      (pss_cons (ps_set (i := 6) nd rfl (Or.inl rfl) (pe_op op_mod (pe_op op_add (pe_op op_mod (pe_ix ix_list (pv 2) (pe_op op_mod (pv 3) (pe_callB call_len rfl (hB _ h_len) bt_len (pa_cons (pv 2) pa_nil))) (fun _ _ => rfl)) pe_int) (pe_op op_mulW pe_int (pe_op op_add (pv 3) pe_int))) pe_int))
      (pss_cons (ps_set (i := 6) nd rfl (Or.inl rfl) (pe_op op_mod (pe_op op_mulW (pe_op op_mod (pe_op op_mulW (pv 6) (pv 6)) pe_int) pe_int) pe_int))
      (pss_cons (ps_set (i := 6) nd rfl (Or.inl rfl) (pe_op op_mod (pe_op op_pow (pe_op op_add (pv 6) (pe_op op_mulW pe_int (pv 3))) pe_int) pe_int))
      (pss_one (ps_ret (pe_op op_mod (pe_op op_fdivW (pv 6) pe_int) (pv 1)))))))))
  · obtain ⟨k, rfl, _⟩ := h
    rfl


/-! ### is_integer -/
def f_p_is_integer : Sv Nat := (sSeq (sRet (eAnd (eUn (isiD "int") (eVar 0)) (eAnd (eNot (eUn (isiD "bool") (eVar 0))) (eChain leD leD (eVar 1) (eVar 0) (eVar 2)))))
    sNil)
instance : MoS f_p_is_integer := by unfold f_p_is_integer; infer_instance
def F_p_is_integer : Fv Nat := runF 3 3 f_p_is_integer
instance : MoF F_p_is_integer := inferInstanceAs (MoF (runF 3 3 f_p_is_integer))
def M_p_is_integer : Nat → Bool := fun i => false
abbrev N_p_is_integer : List Str := ["value", "low", "high"]
abbrev st_p_is_integer : Stmt := top 3
theorem sc_p_is_integer : FnScope N_p_is_integer ["value", "low", "high"] (defScope st_p_is_integer) := ⟨rfl, rfl, rfl, by decide +kernel, rfl, by decide +kernel, by decide +kernel⟩
theorem b_p_is_integer {P : Program} {w : World} {K : PySem.W.Frag} {mg : Str → Option Value} {base : Heap} {cl xc : Nat → Addr} {xf : Nat → Str} {R f : Addr} {cdv : Value} {A : Around} {outer : List Env} {s : Shared} {H : Hp} {E : XK} {B : Bs} (hB : Blt mg) (hC : Cst mg)  
    (hr : Room 0 (A.deeper (envOfC "is_integer" (defScope st_p_is_integer) s.heap.objs.size f cdv))) (hgd : (A.deeper (envOfC "is_integer" (defScope st_p_is_integer) s.heap.objs.size f cdv)).guards = some []) :
    PSs (cxE P w K mg base N_p_is_integer "is_integer" (defScope st_p_is_integer) f cdv A outer s H E) (defBody st_p_is_integer) (rdS (jsN K cl xc xf R) B M_p_is_integer (WD E) f_p_is_integer) := by
  have hu := hr.units
  have hv := hv_of hr
  have hK : K = (jsN K cl xc xf R).K := rfl
  have nd := sc_p_is_integer.nd
  have tk := takesE (P := P) (w := w) (K := K) (mg := mg) (base := base) (N := N_p_is_integer) (qual := "is_integer") (scope := defScope st_p_is_integer) (f := f) (cd := cdv) (A := A) (outer := outer) (s := s) (H := H) (E := E)
  have ow := ownE (P := P) (w := w) (K := K) (mg := mg) (base := base) (N := N_p_is_integer) (qual := "is_integer") (scope := defScope st_p_is_integer) (f := f) (cd := cdv) (A := A) (outer := outer) (s := s) (H := H) (E := E)
  exact (zC (s_ret (e_and (k := true) hK (e_isi hK (hB _ h_isinstance) (hB _ h_int) bt_int (toMixC (xV 0))) (e_and (k := true) hK (e_not hK (toMixC (e_isi hK (hB _ h_isinstance) (hB _ h_bool) bt_bool (toMixC (xV 0))))) (e_one (eCh (op_le) (op_le) s_cmp s_cmp (toMixC (xV 1)) (toMixC (xV 0)) (toMixC (xV 2)))))))
    s_nil)
theorem ok_p_is_integer {P : Program} {w : World} {K : PySem.W.Frag} {mg : Str → Option Value} {base : Heap} {cl xc : Nat → Addr} {xf : Nat → Str} {R f : Addr} {fd : FuncData} (hB : Blt mg) (hC : Cst mg)   (F : L2.Fun K "is_integer" "is_integer" st_p_is_integer f fd) (hm : mg "is_integer" = some (.ref f)) (hb : Binds K fd ["value", "low", "high"] []) :
    Cal (jsN K cl xc xf R) P w mg base 1 "is_integer" 3 F_p_is_integer :=
  ⟨⟨f, fd, ["value", "low", "high"], fnG_D F sc_p_is_integer rfl (by decide) (fun cdv A outer s H E B hr hgd => b_p_is_integer hB hC    hr hgd), hm, F.kp, hb⟩, runF_len⟩


/-! ### lengths_error -/
def f_p_lengths_error : Sv Nat := (sSeq (sIf (tNotD (tBl (eChain leD leD (eC (.int 1)) (eB lenB (aCons (eVar 0) aNil)) (eC (.int 6))))) (sSeq (sRet (eTup (aCons (eC .non) (aCons (eC (.str "count")) aNil))))
    sNil) sNil)
    (sSeq (sFor (iEnmB (eVar 0)) (gTp (gsCons (gNm 1) (gsCons (gNm 2) gsNil))) (sSeq (sIf (tNotD (tOf (eCall F_p_is_integer (aCons (eVar 2) (aCons (eC (.int 1)) (aCons (eC (.int 1000000000000)) aNil)))))) (sSeq (sRet (eTup (aCons (eVar 1) (aCons (eC (.str "length")) aNil))))
    sNil) sNil)
    sNil))
    (sSeq (sRet (eIf (tBl (eOp leD (eB sumB (aCons (eVar 0) aNil)) (eC (.int 1000000000000)))) (eC .non) (eTup (aCons (eC .non) (aCons (eC (.str "places")) aNil)))))
    sNil)))
instance : MoS f_p_lengths_error := by unfold f_p_lengths_error; infer_instance
def F_p_lengths_error : Fv Nat := runF 3 1 f_p_lengths_error
instance : MoF F_p_lengths_error := inferInstanceAs (MoF (runF 3 1 f_p_lengths_error))
def M_p_lengths_error : Nat → Bool := fun i => false
abbrev N_p_lengths_error : List Str := ["lengths", "at", "length"]
abbrev st_p_lengths_error : Stmt := top 4
theorem sc_p_lengths_error : FnScope N_p_lengths_error ["lengths"] (defScope st_p_lengths_error) := ⟨rfl, rfl, rfl, by decide +kernel, rfl, by decide +kernel, by decide +kernel⟩
theorem b_p_lengths_error {P : Program} {w : World} {K : PySem.W.Frag} {mg : Str → Option Value} {base : Heap} {cl xc : Nat → Addr} {xf : Nat → Str} {R f : Addr} {cdv : Value} {A : Around} {outer : List Env} {s : Shared} {H : Hp} {E : XK} {B : Bs} (hB : Blt mg) (hC : Cst mg)  (C_p_is_integer : Cal (jsN K cl xc xf R) P w mg base 1 "is_integer" 3 F_p_is_integer)
    (hr : Room 1 (A.deeper (envOfC "lengths_error" (defScope st_p_lengths_error) s.heap.objs.size f cdv))) (hgd : (A.deeper (envOfC "lengths_error" (defScope st_p_lengths_error) s.heap.objs.size f cdv)).guards = some []) :
    PSs (cxE P w K mg base N_p_lengths_error "lengths_error" (defScope st_p_lengths_error) f cdv A outer s H E) (defBody st_p_lengths_error) (rdS (jsN K cl xc xf R) B M_p_lengths_error (WD E) f_p_lengths_error) := by
  have hu := hr.units
  have hv := hv_of hr
  have hK : K = (jsN K cl xc xf R).K := rfl
  have nd := sc_p_lengths_error.nd
  have tk := takesE (P := P) (w := w) (K := K) (mg := mg) (base := base) (N := N_p_lengths_error) (qual := "lengths_error") (scope := defScope st_p_lengths_error) (f := f) (cd := cdv) (A := A) (outer := outer) (s := s) (H := H) (E := E)
  have ow := ownE (P := P) (w := w) (K := K) (mg := mg) (base := base) (N := N_p_lengths_error) (qual := "lengths_error") (scope := defScope st_p_lengths_error) (f := f) (cd := cdv) (A := A) (outer := outer) (s := s) (H := H) (E := E)
  exact (zC (s_if (t_not (tCh (op_le) (op_le) s_cmp s_cmp (toMixC cI) (toMixC (kLen hK (hB _ h_len) (aX (toMixC (xV 0)) aN))) (toMixC (gI (hC _ c_MAX_BLOCKS))))) (zC (s_ret (tpC (aC cN (aC cS aN))))
    s_nil) s_nil)
    (zC (zFor (i_enB hK (hB _ h_enumerate) (xV 0)) (gT hK (gsC_len (gsC_len gsN_len)) (gsC (gN 1 nd) (gsC (gN 2 nd) gs0))) (zC (s_if (t_not (tTr hK (toMixC (callC hK tk C_p_is_integer (hr.mono (by decide)) hgd (aC (xV 2) (aC cI (aC (gI (hC _ c_MAX_PLACES)) aN))))))) (zC (s_ret (tpC (aC (xV 1) (aC cS aN))))
    s_nil) s_nil)
    s_nil) (hp := ow))
    (zC (s_ret (e_if (tCp (op_le) s_cmp (toMixC (kSum hK (hB _ h_sum) (aX (toMixC (xV 0)) aN))) (toMixC (gI (hC _ c_MAX_PLACES)))) cN (tpC (aC cN (aC cS aN)))))
    s_nil)))
theorem ok_p_lengths_error {P : Program} {w : World} {K : PySem.W.Frag} {mg : Str → Option Value} {base : Heap} {cl xc : Nat → Addr} {xf : Nat → Str} {R f : Addr} {fd : FuncData} (hB : Blt mg) (hC : Cst mg)  (C_p_is_integer : Cal (jsN K cl xc xf R) P w mg base 1 "is_integer" 3 F_p_is_integer) (F : L2.Fun K "lengths_error" "lengths_error" st_p_lengths_error f fd) (hm : mg "lengths_error" = some (.ref f)) (hb : Binds K fd ["lengths"] []) :
    Cal (jsN K cl xc xf R) P w mg base 2 "lengths_error" 1 F_p_lengths_error :=
  ⟨⟨f, fd, ["lengths"], fnG_D F sc_p_lengths_error rfl (by decide) (fun cdv A outer s H E B hr hgd => b_p_lengths_error hB hC  C_p_is_integer  hr hgd), hm, F.kp, hb⟩, runF_len⟩


/-! ### order_error -/
def f_p_order_error : Sv Nat := (sSeq (sIf (tBl (eOp neD (eB lenB (aCons (eVar 0) aNil)) (eVar 1))) (sSeq (sRet (eTup (aCons (eC .non) (aCons (eC (.str "order")) aNil))))
    sNil) sNil)
    (sSeq (sFor (iEnmB (eVar 0)) (gTp (gsCons (gNm 2) (gsCons (gNm 3) gsNil))) (sSeq (sIf (tOrD (tNotD (tOf (eCall F_p_is_integer (aCons (eVar 3) (aCons (eC (.int 0)) (aCons (eOp subD (eVar 1) (eC (.int 1))) aNil)))))) (tBl (eOp inD (eVar 3) (eSl sliceD (eVar 0) pNone (pSome (eVar 2)))))) (sSeq (sRet (eTup (aCons (eVar 2) (aCons (eC (.str "block")) aNil))))
    sNil) sNil)
    sNil))
    (sSeq (sRet (eC .non))
    sNil)))
instance : MoS f_p_order_error := by unfold f_p_order_error; infer_instance
def F_p_order_error : Fv Nat := runF 4 2 f_p_order_error
instance : MoF F_p_order_error := inferInstanceAs (MoF (runF 4 2 f_p_order_error))
def M_p_order_error : Nat → Bool := fun i => false
abbrev N_p_order_error : List Str := ["order", "many", "at", "block"]
abbrev st_p_order_error : Stmt := top 5
theorem sc_p_order_error : FnScope N_p_order_error ["order", "many"] (defScope st_p_order_error) := ⟨rfl, rfl, rfl, by decide +kernel, rfl, by decide +kernel, by decide +kernel⟩
theorem b_p_order_error {P : Program} {w : World} {K : PySem.W.Frag} {mg : Str → Option Value} {base : Heap} {cl xc : Nat → Addr} {xf : Nat → Str} {R f : Addr} {cdv : Value} {A : Around} {outer : List Env} {s : Shared} {H : Hp} {E : XK} {B : Bs} (hB : Blt mg) (hC : Cst mg)  (C_p_is_integer : Cal (jsN K cl xc xf R) P w mg base 1 "is_integer" 3 F_p_is_integer)
    (hr : Room 1 (A.deeper (envOfC "order_error" (defScope st_p_order_error) s.heap.objs.size f cdv))) (hgd : (A.deeper (envOfC "order_error" (defScope st_p_order_error) s.heap.objs.size f cdv)).guards = some []) :
    PSs (cxE P w K mg base N_p_order_error "order_error" (defScope st_p_order_error) f cdv A outer s H E) (defBody st_p_order_error) (rdS (jsN K cl xc xf R) B M_p_order_error (WD E) f_p_order_error) := by
  have hu := hr.units
  have hv := hv_of hr
  have hK : K = (jsN K cl xc xf R).K := rfl
  have nd := sc_p_order_error.nd
  have tk := takesE (P := P) (w := w) (K := K) (mg := mg) (base := base) (N := N_p_order_error) (qual := "order_error") (scope := defScope st_p_order_error) (f := f) (cd := cdv) (A := A) (outer := outer) (s := s) (H := H) (E := E)
  have ow := ownE (P := P) (w := w) (K := K) (mg := mg) (base := base) (N := N_p_order_error) (qual := "order_error") (scope := defScope st_p_order_error) (f := f) (cd := cdv) (A := A) (outer := outer) (s := s) (H := H) (E := E)
  exact (zC (s_if (tCp (kNe hK hu) s_ne (toMixC (kLen hK (hB _ h_len) (aX (toMixC (xV 0)) aN))) (toMixC (xV 1))) (zC (s_ret (tpC (aC cN (aC cS aN))))
    s_nil) s_nil)
    (zC (zFor (i_enB hK (hB _ h_enumerate) (xV 0)) (gT hK (gsC_len (gsC_len gsN_len)) (gsC (gN 2 nd) (gsC (gN 3 nd) gs0))) (zC (s_if (PW.pt (t_or (t_not (tTr hK (toMixC (callC hK tk C_p_is_integer (hr.mono (by decide)) hgd (aC (xV 3) (aC cI (aC (bSub (toMixC (xV 1)) (toMixC cI)) aN))))))) (t_or1 (tIn (kIn hK hv) s_in (toMixC (xV 3)) (toMixC (slC hK (xV 0) p_none (p_some (toMixC (xV 2))))))))) (zC (s_ret (tpC (aC (xV 2) (aC cS aN))))
    s_nil) s_nil)
    s_nil) (hp := ow))
    (zC (s_ret cN)
    s_nil)))
theorem ok_p_order_error {P : Program} {w : World} {K : PySem.W.Frag} {mg : Str → Option Value} {base : Heap} {cl xc : Nat → Addr} {xf : Nat → Str} {R f : Addr} {fd : FuncData} (hB : Blt mg) (hC : Cst mg)  (C_p_is_integer : Cal (jsN K cl xc xf R) P w mg base 1 "is_integer" 3 F_p_is_integer) (F : L2.Fun K "order_error" "order_error" st_p_order_error f fd) (hm : mg "order_error" = some (.ref f)) (hb : Binds K fd ["order", "many"] []) :
    Cal (jsN K cl xc xf R) P w mg base 2 "order_error" 2 F_p_order_error :=
  ⟨⟨f, fd, ["order", "many"], fnG_D F sc_p_order_error rfl (by decide) (fun cdv A outer s H E B hr hgd => b_p_order_error hB hC  C_p_is_integer  hr hgd), hm, F.kp, hb⟩, runF_len⟩


/-! ### exchange_error -/
def f_p_exchange_error : Sv Nat := (sSeq (sIf (tOrD (tNotD (tOf (eUn (isiD "tuple") (eVar 0)))) (tOrD (tBl (eOp neD (eB lenB (aCons (eVar 0) aNil)) (eC (.int 2)))) (tNotD (tOf (eB allB (aCons (eComp [1] (iSeq (eVar 0)) (gNm 1) tYesD (eUn (isiD "tuple") (eVar 1))) aNil)))))) (sSeq (sRet (eTup (aCons (eC .non) (aCons (eC (.str "pair")) aNil))))
    sNil) sNil)
    (sSeq (sRet (eOr (eCall F_p_lengths_error (aCons (eOp idxD (eVar 0) (eC (.int 0))) aNil)) (eCall F_p_order_error (aCons (eOp idxD (eVar 0) (eC (.int 1))) (aCons (eB lenB (aCons (eOp idxD (eVar 0) (eC (.int 0))) aNil)) aNil)))))
    sNil))
instance : MoS f_p_exchange_error := by unfold f_p_exchange_error; infer_instance
def F_p_exchange_error : Fv Nat := runF 2 1 f_p_exchange_error
instance : MoF F_p_exchange_error := inferInstanceAs (MoF (runF 2 1 f_p_exchange_error))
def M_p_exchange_error : Nat → Bool := fun i => false
abbrev N_p_exchange_error : List Str := ["value", "part"]
abbrev st_p_exchange_error : Stmt := top 6
theorem sc_p_exchange_error : FnScope N_p_exchange_error ["value"] (defScope st_p_exchange_error) := ⟨rfl, rfl, rfl, by decide +kernel, rfl, by decide +kernel, by decide +kernel⟩
theorem b_p_exchange_error {P : Program} {w : World} {K : PySem.W.Frag} {mg : Str → Option Value} {base : Heap} {cl xc : Nat → Addr} {xf : Nat → Str} {R f : Addr} {cdv : Value} {A : Around} {outer : List Env} {s : Shared} {H : Hp} {E : XK} {B : Bs} (hB : Blt mg) (hC : Cst mg)  (C_p_lengths_error : Cal (jsN K cl xc xf R) P w mg base 2 "lengths_error" 1 F_p_lengths_error) (C_p_order_error : Cal (jsN K cl xc xf R) P w mg base 2 "order_error" 2 F_p_order_error)
    (hr : Room 2 (A.deeper (envOfC "exchange_error" (defScope st_p_exchange_error) s.heap.objs.size f cdv))) (hgd : (A.deeper (envOfC "exchange_error" (defScope st_p_exchange_error) s.heap.objs.size f cdv)).guards = some []) :
    PSs (cxE P w K mg base N_p_exchange_error "exchange_error" (defScope st_p_exchange_error) f cdv A outer s H E) (defBody st_p_exchange_error) (rdS (jsN K cl xc xf R) B M_p_exchange_error (WD E) f_p_exchange_error) := by
  have hu := hr.units
  have hv := hv_of hr
  have hK : K = (jsN K cl xc xf R).K := rfl
  have nd := sc_p_exchange_error.nd
  have tk := takesE (P := P) (w := w) (K := K) (mg := mg) (base := base) (N := N_p_exchange_error) (qual := "exchange_error") (scope := defScope st_p_exchange_error) (f := f) (cd := cdv) (A := A) (outer := outer) (s := s) (H := H) (E := E)
  have ow := ownE (P := P) (w := w) (K := K) (mg := mg) (base := base) (N := N_p_exchange_error) (qual := "exchange_error") (scope := defScope st_p_exchange_error) (f := f) (cd := cdv) (A := A) (outer := outer) (s := s) (H := H) (E := E)
  exact (zC (s_if (PW.pt (t_or (t_not (tTr hK (toMixC (e_isi hK (hB _ h_isinstance) (hB _ h_tuple) bt_tuple (toMixC (xV 0)))))) (t_or (tCp (kNe hK hu) s_ne (toMixC (kLen hK (hB _ h_len) (aX (toMixC (xV 0)) aN))) (toMixC cI)) (t_or1 (t_not (tTr hK (toMixC (kAll hK (hB _ h_all) (aX (toMixF (lcF [("part", 1)] nd (blk_of N_p_exchange_error (defScope st_p_exchange_error) rfl rfl (by decide +kernel)) (iSq hK (xV 0)) (fun _ _ _ _ _ => (gN 1 nd)) (fun _ _ _ _ _ => ts0) (fun _ _ _ _ _ => (e_isi hK (hB _ h_isinstance) (hB _ h_tuple) bt_tuple (toMixC (xV 1)))))) aN))))))))) (zC (s_ret (tpC (aC cN (aC cS aN))))
    s_nil) s_nil)
    (zC (s_ret (e_or (k := true) hK (callC hK tk C_p_lengths_error (hr.mono (by decide)) hgd (aC (ixC hK (xV 0) cI) aN)) (e_one (callC hK tk C_p_order_error (hr.mono (by decide)) hgd (aC (ixC hK (xV 0) cI) (aC (kLen hK (hB _ h_len) (aX (toMixC (ixC hK (xV 0) cI)) aN)) aN))))))
    s_nil))
theorem ok_p_exchange_error {P : Program} {w : World} {K : PySem.W.Frag} {mg : Str → Option Value} {base : Heap} {cl xc : Nat → Addr} {xf : Nat → Str} {R f : Addr} {fd : FuncData} (hB : Blt mg) (hC : Cst mg)  (C_p_lengths_error : Cal (jsN K cl xc xf R) P w mg base 2 "lengths_error" 1 F_p_lengths_error) (C_p_order_error : Cal (jsN K cl xc xf R) P w mg base 2 "order_error" 2 F_p_order_error) (F : L2.Fun K "exchange_error" "exchange_error" st_p_exchange_error f fd) (hm : mg "exchange_error" = some (.ref f)) (hb : Binds K fd ["value"] []) :
    Cal (jsN K cl xc xf R) P w mg base 3 "exchange_error" 1 F_p_exchange_error :=
  ⟨⟨f, fd, ["value"], fnG_D F sc_p_exchange_error rfl (by decide) (fun cdv A outer s H E B hr hgd => b_p_exchange_error hB hC  C_p_lengths_error C_p_order_error  hr hgd), hm, F.kp, hb⟩, runF_len⟩


/-! ### is_exchange -/
def f_p_is_exchange : Sv Nat := (sSeq (sRet (eOp isND (eCall F_p_exchange_error (aCons (eVar 0) aNil)) (eC .non)))
    sNil)
instance : MoS f_p_is_exchange := by unfold f_p_is_exchange; infer_instance
def F_p_is_exchange : Fv Nat := runF 1 1 f_p_is_exchange
instance : MoF F_p_is_exchange := inferInstanceAs (MoF (runF 1 1 f_p_is_exchange))
def M_p_is_exchange : Nat → Bool := fun i => false
abbrev N_p_is_exchange : List Str := ["value"]
abbrev st_p_is_exchange : Stmt := top 7
theorem sc_p_is_exchange : FnScope N_p_is_exchange ["value"] (defScope st_p_is_exchange) := ⟨rfl, rfl, rfl, by decide +kernel, rfl, by decide +kernel, by decide +kernel⟩
theorem b_p_is_exchange {P : Program} {w : World} {K : PySem.W.Frag} {mg : Str → Option Value} {base : Heap} {cl xc : Nat → Addr} {xf : Nat → Str} {R f : Addr} {cdv : Value} {A : Around} {outer : List Env} {s : Shared} {H : Hp} {E : XK} {B : Bs} (hB : Blt mg) (hC : Cst mg)  (C_p_exchange_error : Cal (jsN K cl xc xf R) P w mg base 3 "exchange_error" 1 F_p_exchange_error)
    (hr : Room 3 (A.deeper (envOfC "is_exchange" (defScope st_p_is_exchange) s.heap.objs.size f cdv))) (hgd : (A.deeper (envOfC "is_exchange" (defScope st_p_is_exchange) s.heap.objs.size f cdv)).guards = some []) :
    PSs (cxE P w K mg base N_p_is_exchange "is_exchange" (defScope st_p_is_exchange) f cdv A outer s H E) (defBody st_p_is_exchange) (rdS (jsN K cl xc xf R) B M_p_is_exchange (WD E) f_p_is_exchange) := by
  have hu := hr.units
  have hv := hv_of hr
  have hK : K = (jsN K cl xc xf R).K := rfl
  have nd := sc_p_is_exchange.nd
  have tk := takesE (P := P) (w := w) (K := K) (mg := mg) (base := base) (N := N_p_is_exchange) (qual := "is_exchange") (scope := defScope st_p_is_exchange) (f := f) (cd := cdv) (A := A) (outer := outer) (s := s) (H := H) (E := E)
  have ow := ownE (P := P) (w := w) (K := K) (mg := mg) (base := base) (N := N_p_is_exchange) (qual := "is_exchange") (scope := defScope st_p_is_exchange) (f := f) (cd := cdv) (A := A) (outer := outer) (s := s) (H := H) (E := E)
  exact (zC (s_ret (eCp (op_isN) s_isN (toMixC (callC hK tk C_p_exchange_error (hr.mono (by decide)) hgd (aC (xV 0) aN))) (toMixC cN)))
    s_nil)
theorem ok_p_is_exchange {P : Program} {w : World} {K : PySem.W.Frag} {mg : Str → Option Value} {base : Heap} {cl xc : Nat → Addr} {xf : Nat → Str} {R f : Addr} {fd : FuncData} (hB : Blt mg) (hC : Cst mg)  (C_p_exchange_error : Cal (jsN K cl xc xf R) P w mg base 3 "exchange_error" 1 F_p_exchange_error) (F : L2.Fun K "is_exchange" "is_exchange" st_p_is_exchange f fd) (hm : mg "is_exchange" = some (.ref f)) (hb : Binds K fd ["value"] []) :
    Cal (jsN K cl xc xf R) P w mg base 4 "is_exchange" 1 F_p_is_exchange :=
  ⟨⟨f, fd, ["value"], fnG_D F sc_p_is_exchange rfl (by decide) (fun cdv A outer s H E B hr hgd => b_p_is_exchange hB hC  C_p_exchange_error  hr hgd), hm, F.kp, hb⟩, runF_len⟩


/-! ### _law_far -/
def f_far : Sv Nat := (sSeq (sRet (eOp modD (eOp addD (eOp mulD (eCall drawF (aCons (eVar 0) (aCons (eOp powD (eC (.int 10)) (eC (.int 7))) aNil))) (eOp powD (eC (.int 10)) (eC (.int 6)))) (eCall drawF (aCons (eVar 0) (aCons (eOp powD (eC (.int 10)) (eC (.int 6))) aNil)))) (eVar 1)))
    sNil)
instance : MoS f_far := by unfold f_far; infer_instance
def F_far : Fv Nat := runF 2 2 f_far
instance : MoF F_far := inferInstanceAs (MoF (runF 2 2 f_far))
def M_far : Nat → Bool := fun i => false
abbrev N_far : List Str := ["_law_jar", "_law_many"]
abbrev st_far : Stmt := top 11
theorem sc_far : FnScope N_far ["_law_jar", "_law_many"] (defScope st_far) := ⟨rfl, rfl, rfl, by decide +kernel, rfl, by decide +kernel, by decide +kernel⟩
theorem b_far {P : Program} {w : World} {K : PySem.W.Frag} {mg : Str → Option Value} {base : Heap} {cl xc : Nat → Addr} {xf : Nat → Str} {R f : Addr} {cdv : Value} {A : Around} {outer : List Env} {s : Shared} {H : Hp} {E : XK} {B : Bs} (hB : Blt mg) (hC : Cst mg)  (C_lift : Cal (jsN K cl xc xf R) P w mg base 1 "_law_lift" 2 drawF)
    (hr : Room 1 (A.deeper (envOfC "_law_far" (defScope st_far) s.heap.objs.size f cdv))) (hgd : (A.deeper (envOfC "_law_far" (defScope st_far) s.heap.objs.size f cdv)).guards = some []) :
    PSs (cxE P w K mg base N_far "_law_far" (defScope st_far) f cdv A outer s H E) (defBody st_far) (rdS (jsN K cl xc xf R) B M_far (WD E) f_far) := by
  have hu := hr.units
  have hv := hv_of hr
  have hK : K = (jsN K cl xc xf R).K := rfl
  have nd := sc_far.nd
  have tk := takesE (P := P) (w := w) (K := K) (mg := mg) (base := base) (N := N_far) (qual := "_law_far") (scope := defScope st_far) (f := f) (cd := cdv) (A := A) (outer := outer) (s := s) (H := H) (E := E)
  have ow := ownE (P := P) (w := w) (K := K) (mg := mg) (base := base) (N := N_far) (qual := "_law_far") (scope := defScope st_far) (f := f) (cd := cdv) (A := A) (outer := outer) (s := s) (H := H) (E := E)
  exact (zC (s_ret (bMod (toMixC (bAddC hK (bMulC (callC hK tk C_lift (hr.mono (by decide)) hgd (aC (xV 0) (aC (bPow (toMixC cI) (toMixC cI)) aN))) (bPow (toMixC cI) (toMixC cI))) (callC hK tk C_lift (hr.mono (by decide)) hgd (aC (xV 0) (aC (bPow (toMixC cI) (toMixC cI)) aN))))) (toMixC (xV 1))))
    s_nil)
theorem ok_far {P : Program} {w : World} {K : PySem.W.Frag} {mg : Str → Option Value} {base : Heap} {cl xc : Nat → Addr} {xf : Nat → Str} {R f : Addr} {fd : FuncData} (hB : Blt mg) (hC : Cst mg)  (C_lift : Cal (jsN K cl xc xf R) P w mg base 1 "_law_lift" 2 drawF) (F : L2.Fun K "_law_far" "_law_far" st_far f fd) (hm : mg "_law_far" = some (.ref f)) (hb : Binds K fd ["_law_jar", "_law_many"] []) :
    Cal (jsN K cl xc xf R) P w mg base 2 "_law_far" 2 F_far :=
  ⟨⟨f, fd, ["_law_jar", "_law_many"], fnG_D F sc_far rfl (by decide) (fun cdv A outer s H E B hr hgd => b_far hB hC  C_lift  hr hgd), hm, F.kp, hb⟩, runF_len⟩


/-! ### _law_pick -/
def f_pick : Sv Nat := (sSeq (sRet (eOp idxD (eVar 1) (eCall drawF (aCons (eVar 0) (aCons (eB lenB (aCons (eVar 1) aNil)) aNil)))))
    sNil)
instance : MoS f_pick := by unfold f_pick; infer_instance
def F_pick : Fv Nat := runF 2 2 f_pick
instance : MoF F_pick := inferInstanceAs (MoF (runF 2 2 f_pick))
def M_pick : Nat → Bool := fun i => false
abbrev N_pick : List Str := ["_law_jar", "_law_items"]
abbrev st_pick : Stmt := top 12
theorem sc_pick : FnScope N_pick ["_law_jar", "_law_items"] (defScope st_pick) := ⟨rfl, rfl, rfl, by decide +kernel, rfl, by decide +kernel, by decide +kernel⟩
theorem b_pick {P : Program} {w : World} {K : PySem.W.Frag} {mg : Str → Option Value} {base : Heap} {cl xc : Nat → Addr} {xf : Nat → Str} {R f : Addr} {cdv : Value} {A : Around} {outer : List Env} {s : Shared} {H : Hp} {E : XK} {B : Bs} (hB : Blt mg) (hC : Cst mg)  (C_lift : Cal (jsN K cl xc xf R) P w mg base 1 "_law_lift" 2 drawF)
    (hr : Room 1 (A.deeper (envOfC "_law_pick" (defScope st_pick) s.heap.objs.size f cdv))) (hgd : (A.deeper (envOfC "_law_pick" (defScope st_pick) s.heap.objs.size f cdv)).guards = some []) :
    PSs (cxE P w K mg base N_pick "_law_pick" (defScope st_pick) f cdv A outer s H E) (defBody st_pick) (rdS (jsN K cl xc xf R) B M_pick (WD E) f_pick) := by
  have hu := hr.units
  have hv := hv_of hr
  have hK : K = (jsN K cl xc xf R).K := rfl
  have nd := sc_pick.nd
  have tk := takesE (P := P) (w := w) (K := K) (mg := mg) (base := base) (N := N_pick) (qual := "_law_pick") (scope := defScope st_pick) (f := f) (cd := cdv) (A := A) (outer := outer) (s := s) (H := H) (E := E)
  have ow := ownE (P := P) (w := w) (K := K) (mg := mg) (base := base) (N := N_pick) (qual := "_law_pick") (scope := defScope st_pick) (f := f) (cd := cdv) (A := A) (outer := outer) (s := s) (H := H) (E := E)
  exact (zC (s_ret (ixC hK (xV 1) (callC hK tk C_lift (hr.mono (by decide)) hgd (aC (xV 0) (aC (kLen hK (hB _ h_len) (aX (toMixC (xV 1)) aN)) aN)))))
    s_nil)
theorem ok_pick {P : Program} {w : World} {K : PySem.W.Frag} {mg : Str → Option Value} {base : Heap} {cl xc : Nat → Addr} {xf : Nat → Str} {R f : Addr} {fd : FuncData} (hB : Blt mg) (hC : Cst mg)  (C_lift : Cal (jsN K cl xc xf R) P w mg base 1 "_law_lift" 2 drawF) (F : L2.Fun K "_law_pick" "_law_pick" st_pick f fd) (hm : mg "_law_pick" = some (.ref f)) (hb : Binds K fd ["_law_jar", "_law_items"] []) :
    Cal (jsN K cl xc xf R) P w mg base 2 "_law_pick" 2 F_pick :=
  ⟨⟨f, fd, ["_law_jar", "_law_items"], fnG_D F sc_pick rfl (by decide) (fun cdv A outer s H E B hr hgd => b_pick hB hC  C_lift  hr hgd), hm, F.kp, hb⟩, runF_len⟩


/-! ### _law_mixed -/
def f_mixed : Sv Nat := (sSeq (sPr2 2 3 (eB listB (aCons (eVar 1) aNil)) (eLst aNil))
    (sSeq (sWhile (tBl (eOp neD (eVar 2) (eLst aNil))) (sSeq (sAppPop 3 2 (eCall drawF (aCons (eVar 0) (aCons (eB lenB (aCons (eVar 2) aNil)) aNil))))
    sNil))
    (sSeq (sRet (eVar 3))
    sNil)))
instance : MoS f_mixed := by unfold f_mixed; infer_instance
def F_mixed : Fv Nat := runF 4 2 f_mixed
instance : MoF F_mixed := inferInstanceAs (MoF (runF 4 2 f_mixed))
def M_mixed : Nat → Bool := fun i => Nat.beq i 2 || Nat.beq i 3
abbrev N_mixed : List Str := ["_law_jar", "_law_items", "_law_rest", "_law_found"]
abbrev st_mixed : Stmt := top 13
theorem sc_mixed : FnScope N_mixed ["_law_jar", "_law_items"] (defScope st_mixed) := ⟨rfl, rfl, rfl, by decide +kernel, rfl, by decide +kernel, by decide +kernel⟩
theorem b_mixed {P : Program} {w : World} {K : PySem.W.Frag} {mg : Str → Option Value} {base : Heap} {cl xc : Nat → Addr} {xf : Nat → Str} {R f : Addr} {cdv : Value} {A : Around} {outer : List Env} {s : Shared} {H : Hp} {E : XK} {B : Bs} (hB : Blt mg) (hC : Cst mg)  (C_lift : Cal (jsN K cl xc xf R) P w mg base 1 "_law_lift" 2 drawF)
    (hr : Room 1 (A.deeper (envOfC "_law_mixed" (defScope st_mixed) s.heap.objs.size f cdv))) (hgd : (A.deeper (envOfC "_law_mixed" (defScope st_mixed) s.heap.objs.size f cdv)).guards = some []) :
    PSs (cxE P w K mg base N_mixed "_law_mixed" (defScope st_mixed) f cdv A outer s H E) (defBody st_mixed) (rdS (jsN K cl xc xf R) B M_mixed (WD E) f_mixed) := by
  have hu := hr.units
  have hv := hv_of hr
  have hK : K = (jsN K cl xc xf R).K := rfl
  have nd := sc_mixed.nd
  have tk := takesE (P := P) (w := w) (K := K) (mg := mg) (base := base) (N := N_mixed) (qual := "_law_mixed") (scope := defScope st_mixed) (f := f) (cd := cdv) (A := A) (outer := outer) (s := s) (H := H) (E := E)
  have ow := ownE (P := P) (w := w) (K := K) (mg := mg) (base := base) (N := N_mixed) (qual := "_law_mixed") (scope := defScope st_mixed) (f := f) (cd := cdv) (A := A) (outer := outer) (s := s) (H := H) (E := E)
  exact (zC (zPr2 2 3 nd (clO (kLstF hK (hB _ h_list) (aC (xV 1) aN))) (clO (lsF aN)))
    (zC (zWhile (tCp (kNe hK hu) s_ne (xO 2) (toMixF (lsF aN))) (zC (zAppPop 3 2 (toMixC (callC hK tk C_lift (hr.mono (by decide)) hgd (aC (xV 0) (aC (kLen hK (hB _ h_len) (aX (xO 2) aN)) aN)))))
    s_nil) (hp := ow))
    (zC (s_ret (xO 3))
    s_nil)))
theorem ok_mixed {P : Program} {w : World} {K : PySem.W.Frag} {mg : Str → Option Value} {base : Heap} {cl xc : Nat → Addr} {xf : Nat → Str} {R f : Addr} {fd : FuncData} (hB : Blt mg) (hC : Cst mg)  (C_lift : Cal (jsN K cl xc xf R) P w mg base 1 "_law_lift" 2 drawF) (F : L2.Fun K "_law_mixed" "_law_mixed" st_mixed f fd) (hm : mg "_law_mixed" = some (.ref f)) (hb : Binds K fd ["_law_jar", "_law_items"] []) :
    Cal (jsN K cl xc xf R) P w mg base 2 "_law_mixed" 2 F_mixed :=
  ⟨⟨f, fd, ["_law_jar", "_law_items"], fnG_D F sc_mixed rfl (by decide) (fun cdv A outer s H E B hr hgd => b_mixed hB hC  C_lift  hr hgd), hm, F.kp, hb⟩, runF_len⟩


/-! ### _law_drawn -/
def f_drawn : Sv Nat := (sSeq (sAsg (gTp (gsCons (gNm 3) (gsCons (gNm 4) gsNil))) (eTup (aCons (eOp addD (eC (.int 1)) (eCall drawF (aCons (eVar 0) (aCons (eVar 1) aNil)))) (aCons (eCall F_pick (aCons (eVar 0) (aCons (eLst (aCons (eC (.int 3)) (aCons (eC (.int 9)) (aCons (eC (.int 1000)) (aCons (eVar 2) aNil))))) aNil))) aNil))))
    (sSeq (sSet 5 (eComp [7] (iRng1 (eVar 3)) (gNm 7) tYesD (eOp addD (eC (.int 1)) (eCall F_far (aCons (eVar 0) (aCons (eB maxD (aCons (eC (.int 1)) (aCons (eOp fdivD (eVar 4) (eVar 3)) aNil))) aNil))))))
    (sSeq (sSet 6 (eCall F_mixed (aCons (eVar 0) (aCons (eLrg (iRng1 (eVar 3))) aNil))))
    (sSeq (sIf (tBl (eOp eqD (eCall drawF (aCons (eVar 0) (aCons (eC (.int 4)) aNil))) (eC (.int 0)))) (sSeq (sSet 6 (eUn revD (eLrg (iRng1 (eVar 3)))))
    sNil) sNil)
    (sSeq (sRet (eTup (aCons (eB tupleB (aCons (eVar 5) aNil)) (aCons (eB tupleB (aCons (eVar 6) aNil)) aNil))))
    sNil)))))
instance : MoS f_drawn := by unfold f_drawn; infer_instance
def F_drawn : Fv Nat := runF 8 3 f_drawn
instance : MoF F_drawn := inferInstanceAs (MoF (runF 8 3 f_drawn))
def M_drawn : Nat → Bool := fun i => false
abbrev N_drawn : List Str := ["_law_jar", "_law_most", "_law_wide", "_law_many", "_law_great", "_law_lengths", "_law_order", "_law_k"]
abbrev st_drawn : Stmt := top 14
theorem sc_drawn : FnScope N_drawn ["_law_jar", "_law_most", "_law_wide"] (defScope st_drawn) := ⟨rfl, rfl, rfl, by decide +kernel, rfl, by decide +kernel, by decide +kernel⟩
theorem b_drawn {P : Program} {w : World} {K : PySem.W.Frag} {mg : Str → Option Value} {base : Heap} {cl xc : Nat → Addr} {xf : Nat → Str} {R f : Addr} {cdv : Value} {A : Around} {outer : List Env} {s : Shared} {H : Hp} {E : XK} {B : Bs} (hB : Blt mg) (hC : Cst mg)  (C_far : Cal (jsN K cl xc xf R) P w mg base 2 "_law_far" 2 F_far) (C_lift : Cal (jsN K cl xc xf R) P w mg base 1 "_law_lift" 2 drawF) (C_mixed : Cal (jsN K cl xc xf R) P w mg base 2 "_law_mixed" 2 F_mixed) (C_pick : Cal (jsN K cl xc xf R) P w mg base 2 "_law_pick" 2 F_pick)
    (hr : Room 2 (A.deeper (envOfC "_law_drawn" (defScope st_drawn) s.heap.objs.size f cdv))) (hgd : (A.deeper (envOfC "_law_drawn" (defScope st_drawn) s.heap.objs.size f cdv)).guards = some []) :
    PSs (cxE P w K mg base N_drawn "_law_drawn" (defScope st_drawn) f cdv A outer s H E) (defBody st_drawn) (rdS (jsN K cl xc xf R) B M_drawn (WD E) f_drawn) := by
  have hu := hr.units
  have hv := hv_of hr
  have hK : K = (jsN K cl xc xf R).K := rfl
  have nd := sc_drawn.nd
  have tk := takesE (P := P) (w := w) (K := K) (mg := mg) (base := base) (N := N_drawn) (qual := "_law_drawn") (scope := defScope st_drawn) (f := f) (cd := cdv) (A := A) (outer := outer) (s := s) (H := H) (E := E)
  have ow := ownE (P := P) (w := w) (K := K) (mg := mg) (base := base) (N := N_drawn) (qual := "_law_drawn") (scope := defScope st_drawn) (f := f) (cd := cdv) (A := A) (outer := outer) (s := s) (H := H) (E := E)
  exact (zC (zAsg (tpC (aC (bAddC hK cI (callC hK tk C_lift (hr.mono (by decide)) hgd (aC (xV 0) (aC (xV 1) aN)))) (aC (callC hK tk C_pick (hr.mono (by decide)) hgd (aC (xV 0) (aC (toClean (lsF (aC cI (aC cI (aC cI (aC (xV 2) aN)))))) aN))) aN))) (gT hK (gsC_len (gsC_len gsN_len)) (gsC (gN 3 nd) (gsC (gN 4 nd) gs0))))
    (zC (setLc 5 [("_law_k", 7)] nd (blk_of N_drawn (defScope st_drawn) rfl rfl (by decide +kernel)) (iR1 (hB _ h_range) (toMixC (xV 3))) (fun _ _ _ _ _ => (gN 7 nd)) (fun _ _ _ _ _ => ts0) (fun _ _ _ _ _ => (bAddC hK cI (callC hK takesW0 C_far (hr.mono (by decide)) hgd (aC (xV 0) (aC (kMaxD hK (hB _ h_max) (aX (toMixC cI) (aX (toMixC (bDiv (toMixC (xV 4)) (toMixC (xV 3)))) aN))) aN))))))
    (zC (zSet 6 nd (callC hK tk C_mixed (hr.mono (by decide)) hgd (aC (xV 0) (aC (toClean (lR1 (hB _ h_list) (hB _ h_range) (toMixC (xV 3)))) aN))))
    (zC (s_if (tCp (kEq hK hu) s_eq (toMixC (callC hK tk C_lift (hr.mono (by decide)) hgd (aC (xV 0) (aC cI aN)))) (toMixC cI)) (zC (zSet 6 nd (rvC hK (toClean (lR1 (hB _ h_list) (hB _ h_range) (toMixC (xV 3))))))
    s_nil) s_nil)
    (zC (s_ret (tpC (aC (kTupC hK (hB _ h_tuple) (aC (xV 5) aN)) (aC (kTupC hK (hB _ h_tuple) (aC (xV 6) aN)) aN))))
    s_nil)))))
theorem ok_drawn {P : Program} {w : World} {K : PySem.W.Frag} {mg : Str → Option Value} {base : Heap} {cl xc : Nat → Addr} {xf : Nat → Str} {R f : Addr} {fd : FuncData} (hB : Blt mg) (hC : Cst mg)  (C_far : Cal (jsN K cl xc xf R) P w mg base 2 "_law_far" 2 F_far) (C_lift : Cal (jsN K cl xc xf R) P w mg base 1 "_law_lift" 2 drawF) (C_mixed : Cal (jsN K cl xc xf R) P w mg base 2 "_law_mixed" 2 F_mixed) (C_pick : Cal (jsN K cl xc xf R) P w mg base 2 "_law_pick" 2 F_pick) (F : L2.Fun K "_law_drawn" "_law_drawn" st_drawn f fd) (hm : mg "_law_drawn" = some (.ref f)) (hb : Binds K fd ["_law_jar", "_law_most", "_law_wide"] []) :
    Cal (jsN K cl xc xf R) P w mg base 3 "_law_drawn" 3 F_drawn :=
  ⟨⟨f, fd, ["_law_jar", "_law_most", "_law_wide"], fnG_D F sc_drawn rfl (by decide) (fun cdv A outer s H E B hr hgd => b_drawn hB hC  C_far C_lift C_mixed C_pick  hr hgd), hm, F.kp, hb⟩, runF_len⟩


/-! ### _law_odd -/
def f_odd : Sv Nat := (sSeq (sSet 1 (eLst (aCons (eC .non) (aCons (eC (.bl true)) (aCons (eC (.bl false)) (aCons (eUn negD (eC (.int 1))) (aCons (eC (.int 0)) (aCons (eC (.int 1)) (aCons (eOp powD (eC (.int 10)) (eC (.int 12))) (aCons (eOp powD (eC (.int 10)) (eC (.int 39))) (aCons (eC (.str "")) (aCons (eC (.str "0")) (aCons (eC (.str "0:1")) (aCons (eC (.str "none")) (aCons (eTup aNil) (aCons (eLst aNil) (aCons (eC (.dct [])) (aCons (eTup (aCons (eC (.int 0)) aNil)) (aCons (eLst (aCons (eC (.int 0)) aNil)) (aCons (eTup (aCons (eC (.bl true)) aNil)) aNil))))))))))))))))))))
    (sSeq (sRet (eCall F_pick (aCons (eVar 0) (aCons (eOp addD (eVar 1) (eLst (aCons (eTup (aCons (eC (.int 0)) (aCons (eC (.int 0)) aNil))) (aCons (eTup (aCons (eTup (aCons (eC (.int 1)) aNil)) (aCons (eTup (aCons (eC (.int 0)) aNil)) aNil))) (aCons (eC (.dct [(.inr "a", .int 0)])) (aCons (eTup (aCons (eC .non) (aCons (eC (.int 1)) aNil))) (aCons (eTup (aCons (eTup (aCons (eC (.int 1)) aNil)) (aCons (eLst (aCons (eC (.int 0)) aNil)) aNil))) (aCons (eC (.str "put a 0")) aNil)))))))) aNil))))
    sNil))
instance : MoS f_odd := by unfold f_odd; infer_instance
def F_odd : Fv Nat := runF 2 1 f_odd
instance : MoF F_odd := inferInstanceAs (MoF (runF 2 1 f_odd))
def M_odd : Nat → Bool := fun i => false
abbrev N_odd : List Str := ["_law_jar", "_law_items"]
abbrev st_odd : Stmt := top 15
theorem sc_odd : FnScope N_odd ["_law_jar"] (defScope st_odd) := ⟨rfl, rfl, rfl, by decide +kernel, rfl, by decide +kernel, by decide +kernel⟩
theorem b_odd {P : Program} {w : World} {K : PySem.W.Frag} {mg : Str → Option Value} {base : Heap} {cl xc : Nat → Addr} {xf : Nat → Str} {R f : Addr} {cdv : Value} {A : Around} {outer : List Env} {s : Shared} {H : Hp} {E : XK} {B : Bs} (hB : Blt mg) (hC : Cst mg)  (C_pick : Cal (jsN K cl xc xf R) P w mg base 2 "_law_pick" 2 F_pick)
    (hr : Room 2 (A.deeper (envOfC "_law_odd" (defScope st_odd) s.heap.objs.size f cdv))) (hgd : (A.deeper (envOfC "_law_odd" (defScope st_odd) s.heap.objs.size f cdv)).guards = some []) :
    PSs (cxE P w K mg base N_odd "_law_odd" (defScope st_odd) f cdv A outer s H E) (defBody st_odd) (rdS (jsN K cl xc xf R) B M_odd (WD E) f_odd) := by
  have hu := hr.units
  have hv := hv_of hr
  have hK : K = (jsN K cl xc xf R).K := rfl
  have nd := sc_odd.nd
  have tk := takesE (P := P) (w := w) (K := K) (mg := mg) (base := base) (N := N_odd) (qual := "_law_odd") (scope := defScope st_odd) (f := f) (cd := cdv) (A := A) (outer := outer) (s := s) (H := H) (E := E)
  have ow := ownE (P := P) (w := w) (K := K) (mg := mg) (base := base) (N := N_odd) (qual := "_law_odd") (scope := defScope st_odd) (f := f) (cd := cdv) (A := A) (outer := outer) (s := s) (H := H) (E := E)
  exact (zC (zSet 1 nd (toClean (lsF (aC cN (aC cB (aC cB (aC (uNeg (toMixC cI)) (aC cI (aC cI (aC (bPow (toMixC cI) (toMixC cI)) (aC (bPow (toMixC cI) (toMixC cI)) (aC cS (aC cS (aC cS (aC cS (aC (tpC aN) (aC (toClean (lsF aN)) (aC (toClean dct0) (aC (tpC (aC cI aN)) (aC (toClean (lsF (aC cI aN))) (aC (tpC (aC cB aN)) aN)))))))))))))))))))))
    (zC (s_ret (callC hK tk C_pick (hr.mono (by decide)) hgd (aC (xV 0) (aC (bAddC hK (xV 1) (toClean (lsF (aC (tpC (aC cI (aC cI aN))) (aC (tpC (aC (tpC (aC cI aN)) (aC (tpC (aC cI aN)) aN))) (aC (toClean dct1) (aC (tpC (aC cN (aC cI aN))) (aC (tpC (aC (tpC (aC cI aN)) (aC (toClean (lsF (aC cI aN))) aN))) (aC cS aN))))))))) aN))))
    s_nil))
theorem ok_odd {P : Program} {w : World} {K : PySem.W.Frag} {mg : Str → Option Value} {base : Heap} {cl xc : Nat → Addr} {xf : Nat → Str} {R f : Addr} {fd : FuncData} (hB : Blt mg) (hC : Cst mg)  (C_pick : Cal (jsN K cl xc xf R) P w mg base 2 "_law_pick" 2 F_pick) (F : L2.Fun K "_law_odd" "_law_odd" st_odd f fd) (hm : mg "_law_odd" = some (.ref f)) (hb : Binds K fd ["_law_jar"] []) :
    Cal (jsN K cl xc xf R) P w mg base 3 "_law_odd" 1 F_odd :=
  ⟨⟨f, fd, ["_law_jar"], fnG_D F sc_odd rfl (by decide) (fun cdv A outer s H E B hr hgd => b_odd hB hC  C_pick  hr hgd), hm, F.kp, hb⟩, runF_len⟩


/-! ### _law_bent -/
def f_bent : Sv Nat := (sSeq (sSet 2 (eCall drawF (aCons (eVar 0) (aCons (eOp addD (eB lenB (aCons (eVar 1) aNil)) (eC (.int 1))) aNil))))
    (sSeq (sPr2 3 4 (eSl sliceD (eVar 1) pNone (pSome (eVar 2))) (eSl sliceD (eVar 1) (pSome (eVar 2)) pNone))
    (sSeq (sSet 5 (eCall F_pick (aCons (eVar 0) (aCons (eLst (aCons (eCall F_odd (aCons (eVar 0) aNil)) (aCons (eUn negD (eC (.int 1))) (aCons (eB lenB (aCons (eVar 1) aNil)) (aCons (eC (.int 0)) (aCons (eOp addD (eOp powD (eC (.int 10)) (eC (.int 12))) (eC (.int 1))) aNil)))))) aNil))))
    (sSeq (sIf (tAndD (tBl (eOp neD (eVar 4) (eTup aNil))) (tBl (eOp eqD (eCall drawF (aCons (eVar 0) (aCons (eC (.int 3)) aNil))) (eC (.int 0))))) (sSeq (sSet 5 (eCall F_pick (aCons (eVar 0) (aCons (eLst (aCons (eOp eqD (eOp idxD (eVar 4) (eC (.int 0))) (eC (.int 1))) (aCons (eB strX (aCons (eOp idxD (eVar 4) (eC (.int 0))) aNil)) (aCons (eTup (aCons (eOp idxD (eVar 4) (eC (.int 0))) aNil)) (aCons (eLst (aCons (eOp idxD (eVar 4) (eC (.int 0))) aNil)) aNil))))) aNil))))
    sNil) sNil)
    (sSeq (sSet 6 (eLst (aCons (eOp addD (eOp addD (eVar 3) (eTup (aCons (eVar 5) aNil))) (eVar 4)) (aCons (eOp addD (eOp addD (eVar 3) (eTup (aCons (eVar 5) aNil))) (eSl sliceD (eVar 4) (pSome (eC (.int 1))) pNone)) (aCons (eOp addD (eVar 3) (eSl sliceD (eVar 4) (pSome (eC (.int 1))) pNone)) (aCons (eOp addD (eOp addD (eVar 3) (eSl sliceD (eVar 4) pNone (pSome (eC (.int 1))))) (eVar 4)) aNil))))))
    (sSeq (sRet (eCall F_pick (aCons (eVar 0) (aCons (eOp addD (eVar 6) (eLst (aCons (eB listB (aCons (eVar 1) aNil)) (aCons (eOp addD (eOp addD (eVar 3) (eUn revD (eSl sliceD (eVar 4) pNone (pSome (eC (.int 2)))))) (eSl sliceD (eVar 4) (pSome (eC (.int 2))) pNone)) aNil)))) aNil))))
    sNil))))))
instance : MoS f_bent := by unfold f_bent; infer_instance
def F_bent : Fv Nat := runF 7 2 f_bent
instance : MoF F_bent := inferInstanceAs (MoF (runF 7 2 f_bent))
def M_bent : Nat → Bool := fun i => false
abbrev N_bent : List Str := ["_law_jar", "_law_value", "_law_at", "_law_head", "_law_tail", "_law_new", "_law_some"]
abbrev st_bent : Stmt := top 16
theorem sc_bent : FnScope N_bent ["_law_jar", "_law_value"] (defScope st_bent) := ⟨rfl, rfl, rfl, by decide +kernel, rfl, by decide +kernel, by decide +kernel⟩
theorem b_bent {P : Program} {w : World} {K : PySem.W.Frag} {mg : Str → Option Value} {base : Heap} {cl xc : Nat → Addr} {xf : Nat → Str} {R f : Addr} {cdv : Value} {A : Around} {outer : List Env} {s : Shared} {H : Hp} {E : XK} {B : Bs} (hB : Blt mg) (hC : Cst mg)  (C_lift : Cal (jsN K cl xc xf R) P w mg base 1 "_law_lift" 2 drawF) (C_odd : Cal (jsN K cl xc xf R) P w mg base 3 "_law_odd" 1 F_odd) (C_pick : Cal (jsN K cl xc xf R) P w mg base 2 "_law_pick" 2 F_pick)
    (hr : Room 3 (A.deeper (envOfC "_law_bent" (defScope st_bent) s.heap.objs.size f cdv))) (hgd : (A.deeper (envOfC "_law_bent" (defScope st_bent) s.heap.objs.size f cdv)).guards = some []) :
    PSs (cxE P w K mg base N_bent "_law_bent" (defScope st_bent) f cdv A outer s H E) (defBody st_bent) (rdS (jsN K cl xc xf R) B M_bent (WD E) f_bent) := by
  have hu := hr.units
  have hv := hv_of hr
  have hK : K = (jsN K cl xc xf R).K := rfl
  have nd := sc_bent.nd
  have tk := takesE (P := P) (w := w) (K := K) (mg := mg) (base := base) (N := N_bent) (qual := "_law_bent") (scope := defScope st_bent) (f := f) (cd := cdv) (A := A) (outer := outer) (s := s) (H := H) (E := E)
  have ow := ownE (P := P) (w := w) (K := K) (mg := mg) (base := base) (N := N_bent) (qual := "_law_bent") (scope := defScope st_bent) (f := f) (cd := cdv) (A := A) (outer := outer) (s := s) (H := H) (E := E)
  exact (zC (zSet 2 nd (callC hK tk C_lift (hr.mono (by decide)) hgd (aC (xV 0) (aC (bAddC hK (kLen hK (hB _ h_len) (aX (toMixC (xV 1)) aN)) cI) aN))))
    (zC (zPr2 3 4 nd (clC (slC hK (xV 1) p_none (p_some (toMixC (xV 2))))) (clC (slC hK (xV 1) (p_some (toMixC (xV 2))) p_none)))
    (zC (zSet 5 nd (callC hK tk C_pick (hr.mono (by decide)) hgd (aC (xV 0) (aC (toClean (lsF (aC (callC hK tk C_odd (hr.mono (by decide)) hgd (aC (xV 0) aN)) (aC (uNeg (toMixC cI)) (aC (kLen hK (hB _ h_len) (aX (toMixC (xV 1)) aN)) (aC cI (aC (bAddC hK (bPow (toMixC cI) (toMixC cI)) cI) aN))))))) aN))))
    (zC (s_if (PW.pt (t_and (tCp (kNe hK hu) s_ne (toMixC (xV 4)) (toMixC (tpC aN))) (t_and1 (tCp (kEq hK hu) s_eq (toMixC (callC hK tk C_lift (hr.mono (by decide)) hgd (aC (xV 0) (aC cI aN)))) (toMixC cI))))) (zC (zSet 5 nd (callC hK tk C_pick (hr.mono (by decide)) hgd (aC (xV 0) (aC (toClean (lsF (aC (eCp (kEq hK hu) s_eq (toMixC (ixC hK (xV 4) cI)) (toMixC cI)) (aC (kStr hK hgd hu (hB _ h_str) (aX (toMixC (ixC hK (xV 4) cI)) aN)) (aC (tpC (aC (ixC hK (xV 4) cI) aN)) (aC (toClean (lsF (aC (ixC hK (xV 4) cI) aN))) aN)))))) aN))))
    s_nil) s_nil)
    (zC (zSet 6 nd (toClean (lsF (aC (bAddC hK (bAddC hK (xV 3) (tpC (aC (xV 5) aN))) (xV 4)) (aC (bAddC hK (bAddC hK (xV 3) (tpC (aC (xV 5) aN))) (slC hK (xV 4) (p_some (toMixC cI)) p_none)) (aC (bAddC hK (xV 3) (slC hK (xV 4) (p_some (toMixC cI)) p_none)) (aC (bAddC hK (bAddC hK (xV 3) (slC hK (xV 4) p_none (p_some (toMixC cI)))) (xV 4)) aN)))))))
    (zC (s_ret (callC hK tk C_pick (hr.mono (by decide)) hgd (aC (xV 0) (aC (bAddC hK (xV 6) (toClean (lsF (aC (toClean (kLstF hK (hB _ h_list) (aC (xV 1) aN))) (aC (bAddC hK (bAddC hK (xV 3) (rvC hK (slC hK (xV 4) p_none (p_some (toMixC cI))))) (slC hK (xV 4) (p_some (toMixC cI)) p_none)) aN))))) aN))))
    s_nil))))))
theorem ok_bent {P : Program} {w : World} {K : PySem.W.Frag} {mg : Str → Option Value} {base : Heap} {cl xc : Nat → Addr} {xf : Nat → Str} {R f : Addr} {fd : FuncData} (hB : Blt mg) (hC : Cst mg)  (C_lift : Cal (jsN K cl xc xf R) P w mg base 1 "_law_lift" 2 drawF) (C_odd : Cal (jsN K cl xc xf R) P w mg base 3 "_law_odd" 1 F_odd) (C_pick : Cal (jsN K cl xc xf R) P w mg base 2 "_law_pick" 2 F_pick) (F : L2.Fun K "_law_bent" "_law_bent" st_bent f fd) (hm : mg "_law_bent" = some (.ref f)) (hb : Binds K fd ["_law_jar", "_law_value"] []) :
    Cal (jsN K cl xc xf R) P w mg base 4 "_law_bent" 2 F_bent :=
  ⟨⟨f, fd, ["_law_jar", "_law_value"], fnG_D F sc_bent rfl (by decide) (fun cdv A outer s H E B hr hgd => b_bent hB hC  C_lift C_odd C_pick  hr hgd), hm, F.kp, hb⟩, runF_len⟩


/-! ### _law_is_in -/
def f_is_in : Sv Nat := (sSeq (sRet (eAnd (eUn (isiD "int") (eVar 0)) (eAnd (eNot (eUn (isiD "bool") (eVar 0))) (eChain leD leD (eVar 1) (eVar 0) (eVar 2)))))
    sNil)
instance : MoS f_is_in := by unfold f_is_in; infer_instance
def F_is_in : Fv Nat := runF 3 3 f_is_in
instance : MoF F_is_in := inferInstanceAs (MoF (runF 3 3 f_is_in))
def M_is_in : Nat → Bool := fun i => false
abbrev N_is_in : List Str := ["_law_value", "_law_low", "_law_high"]
abbrev st_is_in : Stmt := top 17
theorem sc_is_in : FnScope N_is_in ["_law_value", "_law_low", "_law_high"] (defScope st_is_in) := ⟨rfl, rfl, rfl, by decide +kernel, rfl, by decide +kernel, by decide +kernel⟩
theorem b_is_in {P : Program} {w : World} {K : PySem.W.Frag} {mg : Str → Option Value} {base : Heap} {cl xc : Nat → Addr} {xf : Nat → Str} {R f : Addr} {cdv : Value} {A : Around} {outer : List Env} {s : Shared} {H : Hp} {E : XK} {B : Bs} (hB : Blt mg) (hC : Cst mg)  
    (hr : Room 0 (A.deeper (envOfC "_law_is_in" (defScope st_is_in) s.heap.objs.size f cdv))) (hgd : (A.deeper (envOfC "_law_is_in" (defScope st_is_in) s.heap.objs.size f cdv)).guards = some []) :
    PSs (cxE P w K mg base N_is_in "_law_is_in" (defScope st_is_in) f cdv A outer s H E) (defBody st_is_in) (rdS (jsN K cl xc xf R) B M_is_in (WD E) f_is_in) := by
  have hu := hr.units
  have hv := hv_of hr
  have hK : K = (jsN K cl xc xf R).K := rfl
  have nd := sc_is_in.nd
  have tk := takesE (P := P) (w := w) (K := K) (mg := mg) (base := base) (N := N_is_in) (qual := "_law_is_in") (scope := defScope st_is_in) (f := f) (cd := cdv) (A := A) (outer := outer) (s := s) (H := H) (E := E)
  have ow := ownE (P := P) (w := w) (K := K) (mg := mg) (base := base) (N := N_is_in) (qual := "_law_is_in") (scope := defScope st_is_in) (f := f) (cd := cdv) (A := A) (outer := outer) (s := s) (H := H) (E := E)
  exact (zC (s_ret (e_and (k := true) hK (e_isi hK (hB _ h_isinstance) (hB _ h_int) bt_int (toMixC (xV 0))) (e_and (k := true) hK (e_not hK (toMixC (e_isi hK (hB _ h_isinstance) (hB _ h_bool) bt_bool (toMixC (xV 0))))) (e_one (eCh (op_le) (op_le) s_cmp s_cmp (toMixC (xV 1)) (toMixC (xV 0)) (toMixC (xV 2)))))))
    s_nil)
theorem ok_is_in {P : Program} {w : World} {K : PySem.W.Frag} {mg : Str → Option Value} {base : Heap} {cl xc : Nat → Addr} {xf : Nat → Str} {R f : Addr} {fd : FuncData} (hB : Blt mg) (hC : Cst mg)   (F : L2.Fun K "_law_is_in" "_law_is_in" st_is_in f fd) (hm : mg "_law_is_in" = some (.ref f)) (hb : Binds K fd ["_law_value", "_law_low", "_law_high"] []) :
    Cal (jsN K cl xc xf R) P w mg base 1 "_law_is_in" 3 F_is_in :=
  ⟨⟨f, fd, ["_law_value", "_law_low", "_law_high"], fnG_D F sc_is_in rfl (by decide) (fun cdv A outer s H E B hr hgd => b_is_in hB hC    hr hgd), hm, F.kp, hb⟩, runF_len⟩


/-! ### _law_error -/
def f_error : Sv Nat := (sSeq (sIf (tOrD (tNotD (tOf (eUn (isiD "tuple") (eVar 0)))) (tOrD (tBl (eOp neD (eB lenB (aCons (eVar 0) aNil)) (eC (.int 2)))) (tBl (eOp neLD (eComp [6] (iSeq (eVar 0)) (gNm 6) (tNotD (tOf (eUn (isiD "tuple") (eVar 6)))) (eC (.int 1))) (eLst aNil))))) (sSeq (sRet (eTup (aCons (eC .non) (aCons (eC (.str "pair")) aNil))))
    sNil) sNil)
    (sSeq (sAsg (gTp (gsCons (gNm 1) (gsCons (gNm 2) gsNil))) (eVar 0))
    (sSeq (sIf (tOrD (tBl (eOp eqTD (eVar 1) (eTup aNil))) (tBl (eOp gtD (eB lenB (aCons (eVar 1) aNil)) (eC (.int 6))))) (sSeq (sRet (eTup (aCons (eC .non) (aCons (eC (.str "count")) aNil))))
    sNil) sNil)
    (sSeq (sSet 3 (eComp [5] (iRng1 (eB lenB (aCons (eVar 1) aNil))) (gNm 5) (tNotD (tOf (eCall F_is_in (aCons (eOp idxD (eVar 1) (eVar 5)) (aCons (eC (.int 1)) (aCons (eOp powD (eC (.int 10)) (eC (.int 12))) aNil)))))) (eVar 5)))
    (sSeq (sIf (tBl (eOp neLD (eVar 3) (eLst aNil))) (sSeq (sRet (eTup (aCons (eOp idxD (eVar 3) (eC (.int 0))) (aCons (eC (.str "length")) aNil))))
    sNil) sNil)
    (sSeq (sIf (tBl (eOp gtD (eB sumB (aCons (eVar 1) aNil)) (eOp powD (eC (.int 10)) (eC (.int 12))))) (sSeq (sRet (eTup (aCons (eC .non) (aCons (eC (.str "places")) aNil))))
    sNil) sNil)
    (sSeq (sIf (tBl (eOp neD (eB lenB (aCons (eVar 2) aNil)) (eB lenB (aCons (eVar 1) aNil)))) (sSeq (sRet (eTup (aCons (eC .non) (aCons (eC (.str "order")) aNil))))
    sNil) sNil)
    (sSeq (sSet 4 (eLst aNil))
    (sSeq (sFor (iRng1 (eB lenB (aCons (eVar 2) aNil))) (gNm 5) (sSeq (sIf (tOrD (tNotD (tOf (eCall F_is_in (aCons (eOp idxD (eVar 2) (eVar 5)) (aCons (eC (.int 0)) (aCons (eOp subD (eB lenB (aCons (eVar 2) aNil)) (eC (.int 1))) aNil)))))) (tBl (eOp inD (eOp idxD (eVar 2) (eVar 5)) (eVar 4)))) (sSeq (sRet (eTup (aCons (eVar 5) (aCons (eC (.str "block")) aNil))))
    sNil) sNil)
    (sSeq (sApp 4 (eOp idxD (eVar 2) (eVar 5)))
    sNil)))
    (sSeq (sRet (eC .non))
    sNil))))))))))
instance : MoS f_error := by unfold f_error; infer_instance
def F_error : Fv Nat := runF 7 1 f_error
instance : MoF F_error := inferInstanceAs (MoF (runF 7 1 f_error))
def M_error : Nat → Bool := fun i => Nat.beq i 4
abbrev N_error : List Str := ["_law_value", "_law_lengths", "_law_order", "_law_wrong", "_law_met", "_law_k", "_law_part"]
abbrev st_error : Stmt := top 18
theorem sc_error : FnScope N_error ["_law_value"] (defScope st_error) := ⟨rfl, rfl, rfl, by decide +kernel, rfl, by decide +kernel, by decide +kernel⟩
theorem b_error {P : Program} {w : World} {K : PySem.W.Frag} {mg : Str → Option Value} {base : Heap} {cl xc : Nat → Addr} {xf : Nat → Str} {R f : Addr} {cdv : Value} {A : Around} {outer : List Env} {s : Shared} {H : Hp} {E : XK} {B : Bs} (hB : Blt mg) (hC : Cst mg)  (C_is_in : Cal (jsN K cl xc xf R) P w mg base 1 "_law_is_in" 3 F_is_in)
    (hr : Room 1 (A.deeper (envOfC "_law_error" (defScope st_error) s.heap.objs.size f cdv))) (hgd : (A.deeper (envOfC "_law_error" (defScope st_error) s.heap.objs.size f cdv)).guards = some []) :
    PSs (cxE P w K mg base N_error "_law_error" (defScope st_error) f cdv A outer s H E) (defBody st_error) (rdS (jsN K cl xc xf R) B M_error (WD E) f_error) := by
  have hu := hr.units
  have hv := hv_of hr
  have hK : K = (jsN K cl xc xf R).K := rfl
  have nd := sc_error.nd
  have tk := takesE (P := P) (w := w) (K := K) (mg := mg) (base := base) (N := N_error) (qual := "_law_error") (scope := defScope st_error) (f := f) (cd := cdv) (A := A) (outer := outer) (s := s) (H := H) (E := E)
  have ow := ownE (P := P) (w := w) (K := K) (mg := mg) (base := base) (N := N_error) (qual := "_law_error") (scope := defScope st_error) (f := f) (cd := cdv) (A := A) (outer := outer) (s := s) (H := H) (E := E)
  exact (zC (s_if (PW.pt (t_or (t_not (tTr hK (toMixC (e_isi hK (hB _ h_isinstance) (hB _ h_tuple) bt_tuple (toMixC (xV 0)))))) (t_or (tCp (kNe hK hu) s_ne (toMixC (kLen hK (hB _ h_len) (aX (toMixC (xV 0)) aN))) (toMixC cI)) (t_or1 (tCp (kNeL hK hu) s_neL (toMixF (lcF [("_law_part", 6)] nd (blk_of N_error (defScope st_error) rfl rfl (by decide +kernel)) (iSq hK (xV 0)) (fun _ _ _ _ _ => (gN 6 nd)) (fun _ _ _ _ _ => (ts1 (t_not (tTr hK (toMixC (e_isi hK (hB _ h_isinstance) (hB _ h_tuple) bt_tuple (toMixC (xV 6)))))))) (fun _ _ _ _ _ => cI))) (toMixF (lsF aN))))))) (zC (s_ret (tpC (aC cN (aC cS aN))))
    s_nil) s_nil)
    (zC (zAsg (xV 0) (gT hK (gsC_len (gsC_len gsN_len)) (gsC (gN 1 nd) (gsC (gN 2 nd) gs0))))
    (zC (s_if (PW.pt (t_or (tCp (kEqT hK hu) s_eqT (toMixC (xV 1)) (toMixC (tpC aN))) (t_or1 (tCp (op_gt) s_cmp (toMixC (kLen hK (hB _ h_len) (aX (toMixC (xV 1)) aN))) (toMixC cI))))) (zC (s_ret (tpC (aC cN (aC cS aN))))
    s_nil) s_nil)
    (zC (setLc 3 [("_law_k", 5)] nd (blk_of N_error (defScope st_error) rfl rfl (by decide +kernel)) (iR1 (hB _ h_range) (toMixC (kLen hK (hB _ h_len) (aX (toMixC (xV 1)) aN)))) (fun _ _ _ _ _ => (gN 5 nd)) (fun _ _ _ _ _ => (ts1 (t_not (tTr hK (toMixC (callC hK takesW0 C_is_in (hr.mono (by decide)) hgd (aC (ixC hK (xV 1) (xV 5)) (aC cI (aC (bPow (toMixC cI) (toMixC cI)) aN))))))))) (fun _ _ _ _ _ => (xV 5)))
    (zC (s_if (tCp (kNeL hK hu) s_neL (toMixC (xV 3)) (toMixF (lsF aN))) (zC (s_ret (tpC (aC (ixC hK (xV 3) cI) (aC cS aN))))
    s_nil) s_nil)
    (zC (s_if (tCp (op_gt) s_cmp (toMixC (kSum hK (hB _ h_sum) (aX (toMixC (xV 1)) aN))) (toMixC (bPow (toMixC cI) (toMixC cI)))) (zC (s_ret (tpC (aC cN (aC cS aN))))
    s_nil) s_nil)
    (zC (s_if (tCp (kNe hK hu) s_ne (toMixC (kLen hK (hB _ h_len) (aX (toMixC (xV 2)) aN))) (toMixC (kLen hK (hB _ h_len) (aX (toMixC (xV 1)) aN)))) (zC (s_ret (tpC (aC cN (aC cS aN))))
    s_nil) s_nil)
    (zC (zSetO 4 nd (lsF aN))
    (zC (zFor (iR1 (hB _ h_range) (toMixC (kLen hK (hB _ h_len) (aX (toMixC (xV 2)) aN)))) (gN 5 nd) (zC (s_if (PW.pt (t_or (t_not (tTr hK (toMixC (callC hK tk C_is_in (hr.mono (by decide)) hgd (aC (ixC hK (xV 2) (xV 5)) (aC cI (aC (bSub (toMixC (kLen hK (hB _ h_len) (aX (toMixC (xV 2)) aN))) (toMixC cI)) aN))))))) (t_or1 (tIn (kIn hK hv) s_in (toMixC (ixC hK (xV 2) (xV 5))) (xO 4))))) (zC (s_ret (tpC (aC (xV 5) (aC cS aN))))
    s_nil) s_nil)
    (zC (zApp 4 (ixC hK (xV 2) (xV 5)))
    s_nil)) (hp := ow))
    (zC (s_ret cN)
    s_nil))))))))))
theorem ok_error {P : Program} {w : World} {K : PySem.W.Frag} {mg : Str → Option Value} {base : Heap} {cl xc : Nat → Addr} {xf : Nat → Str} {R f : Addr} {fd : FuncData} (hB : Blt mg) (hC : Cst mg)  (C_is_in : Cal (jsN K cl xc xf R) P w mg base 1 "_law_is_in" 3 F_is_in) (F : L2.Fun K "_law_error" "_law_error" st_error f fd) (hm : mg "_law_error" = some (.ref f)) (hb : Binds K fd ["_law_value"] []) :
    Cal (jsN K cl xc xf R) P w mg base 2 "_law_error" 1 F_error :=
  ⟨⟨f, fd, ["_law_value"], fnG_D F sc_error rfl (by decide) (fun cdv A outer s H E B hr hgd => b_error hB hC  C_is_in  hr hgd), hm, F.kp, hb⟩, runF_len⟩


/-! ### _law_values -/
def f_values : Sv Nat := (sSeq (sSet 1 (eCall F_drawn (aCons (eVar 0) (aCons (eC (.int 6)) (aCons (eOp powD (eC (.int 10)) (eC (.int 12))) aNil)))))
    (sSeq (sAsg (gTp (gsCons (gNm 2) (gsCons (gNm 3) gsNil))) (eVar 1))
    (sSeq (sSet 4 (eCall F_drawn (aCons (eVar 0) (aCons (eC (.int 9)) (aCons (eOp powD (eC (.int 10)) (eC (.int 12))) aNil)))))
    (sSeq (sSet 5 (eOp subD (eOp powD (eC (.int 10)) (eC (.int 12))) (eB sumB (aCons (eSl sliceD (eVar 2) (pSome (eC (.int 1))) pNone) aNil))))
    (sSeq (sSet 6 (eLst (aCons (eVar 1) (aCons (eVar 4) (aCons (eTup (aCons (eOp addD (eTup (aCons (eVar 5) aNil)) (eSl sliceD (eVar 2) (pSome (eC (.int 1))) pNone)) (aCons (eVar 3) aNil))) (aCons (eTup (aCons (eOp addD (eTup (aCons (eOp addD (eVar 5) (eC (.int 1))) aNil)) (eSl sliceD (eVar 2) (pSome (eC (.int 1))) pNone)) (aCons (eVar 3) aNil))) (aCons (eTup (aCons (eVar 2) (aCons (eVar 3) (aCons (eTup aNil) aNil)))) aNil)))))))
    (sSeq (sSet 6 (eOp addD (eVar 6) (eLst (aCons (eTup (aCons (eTup aNil) (aCons (eTup aNil) aNil))) (aCons (eTup (aCons (eVar 2) aNil)) (aCons (eLst (aCons (eVar 2) (aCons (eVar 3) aNil))) (aCons (eTup (aCons (eB listB (aCons (eVar 2) aNil)) (aCons (eVar 3) aNil))) (aCons (eTup (aCons (eVar 2) (aCons (eB listB (aCons (eVar 3) aNil)) aNil))) (aCons (eVar 2) aNil)))))))))
    (sSeq (sSet 6 (eOp addD (eOp addD (eVar 6) (eComp [7] (iRng1 (eC (.int 5))) (gNm 7) tYesD (eTup (aCons (eCall F_bent (aCons (eVar 0) (aCons (eVar 2) aNil))) (aCons (eVar 3) aNil))))) (eLst (aCons (eTup (aCons (eVar 2) (aCons (eCall F_bent (aCons (eVar 0) (aCons (eVar 3) aNil))) aNil))) aNil))))
    (sSeq (sSet 6 (eOp addD (eOp addD (eVar 6) (eComp [7] (iRng1 (eC (.int 5))) (gNm 7) tYesD (eTup (aCons (eVar 2) (aCons (eCall F_bent (aCons (eVar 0) (aCons (eVar 3) aNil))) aNil))))) (eLst (aCons (eCall F_bent (aCons (eVar 0) (aCons (eVar 1) aNil))) aNil))))
    (sSeq (sRet (eOp addD (eVar 6) (eLst (aCons (eTup (aCons (eCall F_bent (aCons (eVar 0) (aCons (eVar 2) aNil))) (aCons (eCall F_bent (aCons (eVar 0) (aCons (eVar 3) aNil))) aNil))) (aCons (eTup (aCons (eSl sliceD (eVar 2) pNone (pSome (eC (.int 1)))) (aCons (eTup aNil) aNil))) (aCons (eCall F_odd (aCons (eVar 0) aNil)) (aCons (eCall F_odd (aCons (eVar 0) aNil)) aNil)))))))
    sNil)))))))))
instance : MoS f_values := by unfold f_values; infer_instance
def F_values : Fv Nat := runF 8 1 f_values
instance : MoF F_values := inferInstanceAs (MoF (runF 8 1 f_values))
def M_values : Nat → Bool := fun i => false
abbrev N_values : List Str := ["_law_jar", "_law_exchange", "_law_lengths", "_law_order", "_law_big", "_law_rest", "_law_values_here", "_law_k"]
abbrev st_values : Stmt := top 19
theorem sc_values : FnScope N_values ["_law_jar"] (defScope st_values) := ⟨rfl, rfl, rfl, by decide +kernel, rfl, by decide +kernel, by decide +kernel⟩
theorem b_values {P : Program} {w : World} {K : PySem.W.Frag} {mg : Str → Option Value} {base : Heap} {cl xc : Nat → Addr} {xf : Nat → Str} {R f : Addr} {cdv : Value} {A : Around} {outer : List Env} {s : Shared} {H : Hp} {E : XK} {B : Bs} (hB : Blt mg) (hC : Cst mg)  (C_bent : Cal (jsN K cl xc xf R) P w mg base 4 "_law_bent" 2 F_bent) (C_drawn : Cal (jsN K cl xc xf R) P w mg base 3 "_law_drawn" 3 F_drawn) (C_odd : Cal (jsN K cl xc xf R) P w mg base 3 "_law_odd" 1 F_odd)
    (hr : Room 4 (A.deeper (envOfC "_law_values" (defScope st_values) s.heap.objs.size f cdv))) (hgd : (A.deeper (envOfC "_law_values" (defScope st_values) s.heap.objs.size f cdv)).guards = some []) :
    PSs (cxE P w K mg base N_values "_law_values" (defScope st_values) f cdv A outer s H E) (defBody st_values) (rdS (jsN K cl xc xf R) B M_values (WD E) f_values) := by
  have hu := hr.units
  have hv := hv_of hr
  have hK : K = (jsN K cl xc xf R).K := rfl
  have nd := sc_values.nd
  have tk := takesE (P := P) (w := w) (K := K) (mg := mg) (base := base) (N := N_values) (qual := "_law_values") (scope := defScope st_values) (f := f) (cd := cdv) (A := A) (outer := outer) (s := s) (H := H) (E := E)
  have ow := ownE (P := P) (w := w) (K := K) (mg := mg) (base := base) (N := N_values) (qual := "_law_values") (scope := defScope st_values) (f := f) (cd := cdv) (A := A) (outer := outer) (s := s) (H := H) (E := E)
  exact (zC (zSet 1 nd (callC hK tk C_drawn (hr.mono (by decide)) hgd (aC (xV 0) (aC cI (aC (bPow (toMixC cI) (toMixC cI)) aN)))))
    (zC (zAsg (xV 1) (gT hK (gsC_len (gsC_len gsN_len)) (gsC (gN 2 nd) (gsC (gN 3 nd) gs0))))
    (zC (zSet 4 nd (callC hK tk C_drawn (hr.mono (by decide)) hgd (aC (xV 0) (aC cI (aC (bPow (toMixC cI) (toMixC cI)) aN)))))
    (zC (zSet 5 nd (bSub (toMixC (bPow (toMixC cI) (toMixC cI))) (toMixC (kSum hK (hB _ h_sum) (aX (toMixC (slC hK (xV 2) (p_some (toMixC cI)) p_none)) aN)))))
    (zC (zSet 6 nd (toClean (lsF (aC (xV 1) (aC (xV 4) (aC (tpC (aC (bAddC hK (tpC (aC (xV 5) aN)) (slC hK (xV 2) (p_some (toMixC cI)) p_none)) (aC (xV 3) aN))) (aC (tpC (aC (bAddC hK (tpC (aC (bAddC hK (xV 5) cI) aN)) (slC hK (xV 2) (p_some (toMixC cI)) p_none)) (aC (xV 3) aN))) (aC (tpC (aC (xV 2) (aC (xV 3) (aC (tpC aN) aN)))) aN))))))))
    (zC (zSet 6 nd (bAddC hK (xV 6) (toClean (lsF (aC (tpC (aC (tpC aN) (aC (tpC aN) aN))) (aC (tpC (aC (xV 2) aN)) (aC (toClean (lsF (aC (xV 2) (aC (xV 3) aN)))) (aC (tpC (aC (toClean (kLstF hK (hB _ h_list) (aC (xV 2) aN))) (aC (xV 3) aN))) (aC (tpC (aC (xV 2) (aC (toClean (kLstF hK (hB _ h_list) (aC (xV 3) aN))) aN))) (aC (xV 2) aN))))))))))
    (zC (zSet 6 nd (bAddC hK (bAddC hK (xV 6) (toClean (lcF [("_law_k", 7)] nd (blk_of N_values (defScope st_values) rfl rfl (by decide +kernel)) (iR1 (hB _ h_range) (toMixC cI)) (fun _ _ _ _ _ => (gN 7 nd)) (fun _ _ _ _ _ => ts0) (fun _ _ _ _ _ => (tpC (aC (callC hK takesW0 C_bent (hr.mono (by decide)) hgd (aC (xV 0) (aC (xV 2) aN))) (aC (xV 3) aN))))))) (toClean (lsF (aC (tpC (aC (xV 2) (aC (callC hK tk C_bent (hr.mono (by decide)) hgd (aC (xV 0) (aC (xV 3) aN))) aN))) aN)))))
    (zC (zSet 6 nd (bAddC hK (bAddC hK (xV 6) (toClean (lcF [("_law_k", 7)] nd (blk_of N_values (defScope st_values) rfl rfl (by decide +kernel)) (iR1 (hB _ h_range) (toMixC cI)) (fun _ _ _ _ _ => (gN 7 nd)) (fun _ _ _ _ _ => ts0) (fun _ _ _ _ _ => (tpC (aC (xV 2) (aC (callC hK takesW0 C_bent (hr.mono (by decide)) hgd (aC (xV 0) (aC (xV 3) aN))) aN))))))) (toClean (lsF (aC (callC hK tk C_bent (hr.mono (by decide)) hgd (aC (xV 0) (aC (xV 1) aN))) aN)))))
    (zC (s_ret (bAddC hK (xV 6) (toClean (lsF (aC (tpC (aC (callC hK tk C_bent (hr.mono (by decide)) hgd (aC (xV 0) (aC (xV 2) aN))) (aC (callC hK tk C_bent (hr.mono (by decide)) hgd (aC (xV 0) (aC (xV 3) aN))) aN))) (aC (tpC (aC (slC hK (xV 2) p_none (p_some (toMixC cI))) (aC (tpC aN) aN))) (aC (callC hK tk C_odd (hr.mono (by decide)) hgd (aC (xV 0) aN)) (aC (callC hK tk C_odd (hr.mono (by decide)) hgd (aC (xV 0) aN)) aN))))))))
    s_nil)))))))))
theorem ok_values {P : Program} {w : World} {K : PySem.W.Frag} {mg : Str → Option Value} {base : Heap} {cl xc : Nat → Addr} {xf : Nat → Str} {R f : Addr} {fd : FuncData} (hB : Blt mg) (hC : Cst mg)  (C_bent : Cal (jsN K cl xc xf R) P w mg base 4 "_law_bent" 2 F_bent) (C_drawn : Cal (jsN K cl xc xf R) P w mg base 3 "_law_drawn" 3 F_drawn) (C_odd : Cal (jsN K cl xc xf R) P w mg base 3 "_law_odd" 1 F_odd) (F : L2.Fun K "_law_values" "_law_values" st_values f fd) (hm : mg "_law_values" = some (.ref f)) (hb : Binds K fd ["_law_jar"] []) :
    Cal (jsN K cl xc xf R) P w mg base 5 "_law_values" 1 F_values :=
  ⟨⟨f, fd, ["_law_jar"], fnG_D F sc_values rfl (by decide) (fun cdv A outer s H E B hr hgd => b_values hB hC  C_bent C_drawn C_odd  hr hgd), hm, F.kp, hb⟩, runF_len⟩


/-! ### the law -/
def f_law : Sv Nat := (sSeq (sFor (iRng1 (eC (.int 5))) (gNm 2) (sSeq (sFor (iSeq (eCall F_values (aCons (eVar 1) aNil))) (gNm 3) (sSeq (sPr2 4 5 (eB reprB (aCons (eVar 3) aNil)) (eCall F_error (aCons (eVar 3) aNil)))
    (sSeq (sIf (tOrD (tBl (eOp neD (eB reprB (aCons (eLst (aCons (eCall F_p_exchange_error (aCons (eVar 3) aNil)) (aCons (eCall F_p_is_exchange (aCons (eVar 3) aNil)) aNil))) aNil)) (eB reprB (aCons (eLst (aCons (eVar 5) (aCons (eOp isND (eVar 5) (eC .non)) aNil))) aNil)))) (tBl (eOp neD (eB reprB (aCons (eVar 3) aNil)) (eVar 4)))) (sSeq (sRet (eC (.bl false)))
    sNil) sNil)
    sNil)))
    sNil))
    (sSeq (sRet (eC (.bl true)))
    sNil))
def M_law : Nat → Bool := fun i => false
abbrev N_law : List Str := ["_law_script", "_law_jar", "_law_turn", "_law_value", "_law_shown", "_law_due"]
abbrev st_law : Stmt := top 20
theorem sc_law : FnScope N_law ["_law_script"] (defScope st_law) := ⟨rfl, rfl, rfl, by decide +kernel, rfl, by decide +kernel, by decide +kernel⟩
theorem b_law {P : Program} {w : World} {K : PySem.W.Frag} {mg : Str → Option Value} {base : Heap} {cl xc : Nat → Addr} {xf : Nat → Str} {R f : Addr} {cdv : Value} {A : Around} {outer : List Env} {s : Shared} {H : Hp} {E : XK} {B : Bs} (hB : Blt mg) (hC : Cst mg) (C_error : Cal (jsN K cl xc xf R) P w mg base 2 "_law_error" 1 F_error) (C_values : Cal (jsN K cl xc xf R) P w mg base 5 "_law_values" 1 F_values) (C_p_exchange_error : Cal (jsN K cl xc xf R) P w mg base 3 "exchange_error" 1 F_p_exchange_error) (C_p_is_exchange : Cal (jsN K cl xc xf R) P w mg base 4 "is_exchange" 1 F_p_is_exchange)
    (hr : Room 5 (A.deeper (envOfC "law" (defScope st_law) s.heap.objs.size f cdv))) (hgd : (A.deeper (envOfC "law" (defScope st_law) s.heap.objs.size f cdv)).guards = some []) :
    PSs (cxF P w K mg base N_law "law" (defScope st_law) f cdv A outer s H E) (defBody st_law).tail (rdS (jsN K cl xc xf R) B M_law W0 f_law) := by
  have hu := hr.units
  have hv := hv_of hr
  have hK : K = (jsN K cl xc xf R).K := rfl
  have nd := sc_law.nd
  have tk := takesW0 (X := cxF P w K mg base N_law "law" (defScope st_law) f cdv A outer s H E)
  have ow : PassesOwn (model P w) (cxF P w K mg base N_law "law" (defScope st_law) f cdv A outer s H E).A (cxF P w K mg base N_law "law" (defScope st_law) f cdv A outer s H E).env (cxF P w K mg base N_law "law" (defScope st_law) f cdv A outer s H E).xe := PassesOwn.never
  exact (zC (zFor (iR1 (hB _ h_range) (toMixC cI)) (gN 2 nd) (zC (zFor (iSq hK (callC hK tk C_values (hr.mono (by decide)) hgd (aC (xV 1) aN))) (gN 3 nd) (zC (zPr2 4 5 nd (clC (kRepr hK hgd hu (hB _ h_repr) (aX (toMixC (xV 3)) aN))) (clC (callC hK tk C_error (hr.mono (by decide)) hgd (aC (xV 3) aN))))
    (zC (s_if (PW.pt (t_or (tCp (kNe hK hu) s_ne (toMixC (kRepr hK hgd hu (hB _ h_repr) (aX (toMixF (lsF (aC (callC hK tk C_p_exchange_error (hr.mono (by decide)) hgd (aC (xV 3) aN)) (aC (callC hK tk C_p_is_exchange (hr.mono (by decide)) hgd (aC (xV 3) aN)) aN)))) aN))) (toMixC (kRepr hK hgd hu (hB _ h_repr) (aX (toMixF (lsF (aC (xV 5) (aC (eCp (op_isN) s_isN (toMixC (xV 5)) (toMixC cN)) aN)))) aN)))) (t_or1 (tCp (kNe hK hu) s_ne (toMixC (kRepr hK hgd hu (hB _ h_repr) (aX (toMixC (xV 3)) aN))) (toMixC (xV 4)))))) (zC (s_ret cB)
    s_nil) s_nil)
    s_nil)) (hp := ow))
    s_nil) (hp := ow))
    (zC (s_ret cB)
    s_nil))
end Lw
namespace Lw
open PySem L2 Mp

/-! ### rows of blocks: plain mathematics -/
/-- an item, 0 beyond the end -/
def gt (A : List Nat) (i : Nat) : Nat := A.getD i 0
theorem gt_eq {A : List Nat} {i : Nat} (h : i < A.length) : gt A i = A[i] := by unfold gt; rw [List.getD_eq_getElem?_getD, List.getElem?_eq_getElem h]; rfl
theorem gt_none {A : List Nat} {i : Nat} (h : A.length ≤ i) : gt A i = 0 := by unfold gt; rw [List.getD_eq_getElem?_getD, List.getElem?_eq_none h]; rfl
theorem gt_0 {a : Nat} {A : List Nat} : gt (a :: A) 0 = a := rfl
theorem gt_s {a : Nat} {A : List Nat} {i : Nat} : gt (a :: A) (i + 1) = gt A i := rfl
theorem gt_opt {A : List Nat} {i : Nat} (h : i < A.length) : A[i]? = some (gt A i) := by rw [gt_eq h, List.getElem?_eq_getElem h]
/-- where block i begins -/
def pre (A : List Nat) (i : Nat) : Nat := (A.take i).sum
/-- the block of a place -/
def blk : List Nat → Nat → Nat
  | [], _ => 0
  | a :: r, p => if p < a then 0 else blk r (p - a) + 1
theorem pre_0 {A : List Nat} : pre A 0 = 0 := rfl
theorem pre_cons {a : Nat} {A : List Nat} {i : Nat} : pre (a :: A) (i + 1) = a + pre A i := by unfold pre; simp
theorem pre_all {A : List Nat} {i : Nat} (h : A.length ≤ i) : pre A i = A.sum := by unfold pre; rw [List.take_of_length_le h]
theorem pre_succ {A : List Nat} {i : Nat} (h : i < A.length) : pre A (i + 1) = pre A i + gt A i := by
  unfold pre
  rw [List.take_add_one, List.sum_append, gt_opt h]
  simp
theorem pre_mono {A : List Nat} {i k : Nat} (h : i ≤ k) : pre A i ≤ pre A k := by
  induction k with
  | zero => have : i = 0 := by omega
            subst this; exact Nat.le_refl _
  | succ k ih =>
    by_cases e : i = k + 1
    · subst e; exact Nat.le_refl _
    · have h1 := ih (by omega)
      by_cases hk : k < A.length
      · rw [pre_succ hk]; omega
      · rw [pre_all (i := k + 1) (by omega), ← pre_all (A := A) (i := k) (by omega)]; exact h1
theorem pre_le {A : List Nat} (i : Nat) : pre A i ≤ A.sum := by
  by_cases h : i ≤ A.length
  · rw [← pre_all (A := A) (Nat.le_refl _)]; exact pre_mono h
  · rw [pre_all (by omega)]; exact Nat.le_refl _
theorem pre_lt {A : List Nat} (hp : ∀ x ∈ A, 0 < x) {i k : Nat} (h : i < k) (hk : k ≤ A.length) : pre A i < pre A k := by
  have h1 : pre A (i + 1) ≤ pre A k := pre_mono (by omega)
  rw [pre_succ (by omega)] at h1
  have : 0 < gt A i := by
    rw [gt_eq (by omega)]
    exact hp _ (List.getElem_mem _)
  omega
theorem blk_spec : ∀ {A : List Nat} {p : Nat}, p < A.sum → blk A p < A.length ∧ pre A (blk A p) ≤ p ∧ p < pre A (blk A p) + gt A (blk A p)
  | [], p, h => by simp at h
  | a :: r, p, h => by
    unfold blk
    by_cases c : p < a
    · rw [if_pos c, gt_0]; simp [pre]; exact c
    · rw [if_neg c]
      have := blk_spec (A := r) (p := p - a) (by simp at h; omega)
      rw [pre_cons]
      simp only [List.length_cons, gt_s]
      omega
theorem blk_uniq : ∀ {A : List Nat} {p i : Nat}, pre A i ≤ p → p < pre A i + gt A i → blk A p = i
  | [], p, i, h1, h2 => by
    rw [gt_none (Nat.zero_le _)] at h2; omega
  | a :: r, p, 0, h1, h2 => by
    rw [gt_0] at h2
    simp [pre] at h2
    unfold blk; rw [if_pos h2]
  | a :: r, p, i + 1, h1, h2 => by
    rw [pre_cons] at h1 h2
    rw [gt_s] at h2
    unfold blk
    rw [if_neg (by omega), blk_uniq (i := i) (by omega) (by omega)]
theorem blk_at {A : List Nat} {i r : Nat} (h : r < gt A i) : blk A (pre A i + r) = i := blk_uniq (by omega) (by omega)
theorem getD_pos {A : List Nat} (hp : ∀ x ∈ A, 0 < x) {i : Nat} (h : i < A.length) : 0 < gt A i := by
  rw [gt_eq h]
  exact hp _ (List.getElem_mem _)
theorem at_lt {A : List Nat} {i r : Nat} (h : r < gt A i) : pre A i + r < A.sum := by
  have hi : i < A.length := by
    by_cases c : i < A.length
    · exact c
    · rw [gt_none (by omega)] at h; omega
  have := pre_succ hi
  have := pre_le (A := A) (i + 1)
  omega
/-- blocks and an order of them -/
structure IsX (L O : List Nat) : Prop where
  len : L.length = O.length
  ne : 0 < O.length
  perm : O.Perm (List.range O.length)
  pos : ∀ x ∈ L, 0 < x
section
variable {L O : List Nat}
theorem IsX.nodup (h : IsX L O) : O.Nodup := h.perm.nodup_iff.mpr List.nodup_range
theorem IsX.lt (h : IsX L O) {b : Nat} (hb : b ∈ O) : b < O.length := List.mem_range.mp (h.perm.mem_iff.mp hb)
theorem IsX.mem (h : IsX L O) {b : Nat} (hb : b < O.length) : b ∈ O := h.perm.mem_iff.mpr (List.mem_range.mpr hb)
theorem IsX.ix (h : IsX L O) {b : Nat} (hb : b < O.length) : O.idxOf b < O.length := List.idxOf_lt_length_of_mem (h.mem hb)
theorem IsX.at_ix (h : IsX L O) {b : Nat} (hb : b < O.length) : O[O.idxOf b]'(h.ix hb) = b := List.getElem_idxOf _
theorem IsX.ix_at (h : IsX L O) {i : Nat} (hi : i < O.length) : O.idxOf O[i] = i := h.nodup.idxOf_getElem i hi
/-- the lengths in the order after a step -/
def loA (L O : List Nat) : List Nat := O.map fun b => gt L b
theorem loA_len : (loA L O).length = O.length := by unfold loA; simp
theorem loA_at {i : Nat} (h : i < O.length) : gt (loA L O) i = gt L O[i] := by
  unfold loA; rw [gt_eq (by simpa using h)]; simp
theorem IsX.loA_ix (h : IsX L O) {b : Nat} (hb : b < O.length) : gt (loA L O) (O.idxOf b) = gt L b := by rw [loA_at (h.ix hb), h.at_ix hb]
theorem map_getD_range : ∀ (L : List Nat), (List.range L.length).map (fun b => gt L b) = L := fun L => by
  apply List.ext_getElem
  · simp
  · intro i h1 h2; simp at h1 ⊢
    exact gt_eq h2
theorem IsX.sum (h : IsX L O) : (loA L O).sum = L.sum := by
  unfold loA
  have := (h.perm.map fun b => gt L b).sum_nat
  rw [this, ← h.len, map_getD_range]
theorem IsX.lo_pos (h : IsX L O) : ∀ x ∈ loA L O, 0 < x := fun x hx => by
  obtain ⟨b, hb, rfl⟩ := List.mem_map.mp hx
  exact getD_pos h.pos (by rw [h.len]; exact h.lt hb)
/-- where the block b begins after a step -/
def aft (L O : List Nat) (b : Nat) : Nat := pre (loA L O) (O.idxOf b)
/-- a step -/
def T (L O : List Nat) (p : Nat) : Nat := aft L O (blk L p) + (p - pre L (blk L p))
theorem T_at {b r : Nat} (h : r < gt L b) : T L O (pre L b + r) = aft L O b + r := by
  unfold T; rw [blk_at h]; omega
theorem IsX.blk_lt (h : IsX L O) {p : Nat} (hp : p < L.sum) : blk L p < O.length := by rw [← h.len]; exact (blk_spec hp).1
theorem IsX.T_lt (h : IsX L O) {p : Nat} (hp : p < L.sum) : T L O p < L.sum := by
  obtain ⟨h1, h2, h3⟩ := blk_spec hp
  have hb := h.blk_lt hp
  have := at_lt (A := loA L O) (i := O.idxOf (blk L p)) (r := p - pre L (blk L p)) (by rw [h.loA_ix hb]; omega)
  rw [h.sum] at this
  exact this
theorem IsX.T_blk (h : IsX L O) {p : Nat} (hp : p < L.sum) : blk (loA L O) (T L O p) = O.idxOf (blk L p) ∧ T L O p - pre (loA L O) (O.idxOf (blk L p)) = p - pre L (blk L p) := by
  obtain ⟨h1, h2, h3⟩ := blk_spec hp
  have hb := h.blk_lt hp
  unfold T aft
  refine ⟨blk_at (by rw [h.loA_ix hb]; omega), by omega⟩
theorem IsX.T_inj (h : IsX L O) {p q : Nat} (hp : p < L.sum) (hq : q < L.sum) (e : T L O p = T L O q) : p = q := by
  obtain ⟨a1, a2⟩ := h.T_blk hp
  obtain ⟨b1, b2⟩ := h.T_blk hq
  rw [e] at a1 a2
  rw [b1] at a1
  have e1 : blk L q = blk L p := by
    have c1 := h.at_ix (h.blk_lt hp)
    have c2 := h.at_ix (h.blk_lt hq)
    rw [← c1, ← c2]
    simp only [a1]
  rw [e1] at b2
  have := (blk_spec hp).2.1
  have := (blk_spec hq).2.1
  rw [e1] at this
  omega
/-! the exchange back -/
def invO (O : List Nat) : List Nat := (List.range O.length).map fun b => O.idxOf b
theorem few_of : ∀ (k : Nat) (O : List Nat), O.Nodup → (∀ x ∈ O, x < k) → O.length ≤ k
  | 0, O, _, lt => by
    cases O with
    | nil => exact Nat.le_refl _
    | cons a r => exact absurd (lt a List.mem_cons_self) (Nat.not_lt_zero _)
  | k + 1, O, nd, lt => by
    by_cases hk : k ∈ O
    · have h1 := few_of k (O.erase k) (nd.erase k) fun x hx => by
        have h2 := (nd.mem_erase_iff.mp hx)
        have := lt x h2.2
        omega
      rw [List.length_erase_of_mem hk] at h1
      omega
    · have := few_of k O nd fun x hx => by
        have h1 := lt x hx
        have h2 : x ≠ k := fun z => hk (z ▸ hx)
        omega
      omega
theorem perm_of : ∀ (k : Nat) (O : List Nat), O.Nodup → (∀ x ∈ O, x < k) → O.length = k → O.Perm (List.range k)
  | 0, O, _, _, l => by
    rw [List.length_eq_zero_iff.mp l]; exact List.Perm.refl _
  | k + 1, O, nd, lt, l => by
    by_cases hk : k ∈ O
    · have h1 := perm_of k (O.erase k) (nd.erase k) (fun x hx => by
        have h2 := (nd.mem_erase_iff.mp hx)
        have := lt x h2.2
        omega) (by rw [List.length_erase_of_mem hk]; omega)
      rw [List.range_succ]
      exact (List.perm_cons_erase hk).trans ((List.Perm.cons k h1).trans (List.perm_append_singleton k _).symm)
    · have := few_of k O nd fun x hx => by
        have h1 := lt x hx
        have h2 : x ≠ k := fun z => hk (z ▸ hx)
        omega
      omega
theorem invO_len : (invO O).length = O.length := by unfold invO; simp
theorem invO_at {b : Nat} (h : b < O.length) : (invO O)[b]'(by rw [invO_len]; exact h) = O.idxOf b := by unfold invO; simp
theorem IsX.invO_nd (h : IsX L O) : (invO O).Nodup := by
  unfold invO
  refine List.pairwise_map.mpr (List.Pairwise.imp_of_mem (fun {a b} ha hb hab z => hab ?_) List.nodup_range)
  rw [← h.at_ix (List.mem_range.mp ha), ← h.at_ix (List.mem_range.mp hb)]
  simp only [z]
theorem IsX.inv (h : IsX L O) : IsX (loA L O) (invO O) := by
  refine ⟨by rw [loA_len, invO_len], by rw [invO_len]; exact h.ne, ?_, h.lo_pos⟩
  rw [invO_len]
  refine perm_of _ _ h.invO_nd (fun x hx => ?_) invO_len
  obtain ⟨b, hb, rfl⟩ := List.mem_map.mp hx
  exact h.ix (List.mem_range.mp hb)
theorem IsX.inv_ix (h : IsX L O) {i : Nat} (hi : i < O.length) : (invO O).idxOf i = O[i] := by
  have hb := h.lt (List.getElem_mem hi)
  have e : (invO O)[O[i]]'(by rw [invO_len]; exact hb) = i := by rw [invO_at hb]; exact h.ix_at hi
  have := h.inv.ix_at (i := O[i]) (by rw [invO_len]; exact hb)
  rw [e] at this
  exact this
theorem IsX.inv_lo (h : IsX L O) : loA (loA L O) (invO O) = L := by
  apply List.ext_getElem
  · rw [loA_len, invO_len, h.len]
  · intro i h1 h2
    have hi : i < O.length := by rw [loA_len, invO_len] at h1; exact h1
    have e1 := loA_at (L := loA L O) (O := invO O) (i := i) (by rw [invO_len]; exact hi)
    rw [gt_eq h1, invO_at hi, h.loA_ix hi, gt_eq h2] at e1
    exact e1
theorem IsX.inv_inv (h : IsX L O) : invO (invO O) = O := by
  apply List.ext_getElem
  · rw [invO_len, invO_len]
  · intro i h1 h2
    rw [invO_at (by rw [invO_len]; exact h2), h.inv_ix h2]
/-- a step of the exchange back leads back -/
theorem IsX.T_back (h : IsX L O) {p : Nat} (hp : p < L.sum) : T (loA L O) (invO O) (T L O p) = p := by
  obtain ⟨a1, a2⟩ := h.T_blk hp
  have hb := h.blk_lt hp
  have := (blk_spec hp).2.1
  show aft (loA L O) (invO O) (blk (loA L O) (T L O p)) + (T L O p - pre (loA L O) (blk (loA L O) (T L O p))) = p
  rw [a1, a2]
  unfold aft
  rw [h.inv_lo, h.inv_ix (h.ix hb), h.at_ix hb]
  omega
theorem IsX.T_forth (h : IsX L O) {p : Nat} (hp : p < L.sum) : T L O (T (loA L O) (invO O) p) = p := by
  have := h.inv.T_back (p := p) (by rw [h.sum]; exact hp)
  rwa [h.inv_lo, h.inv_inv] at this
theorem IsX.g_lt (h : IsX L O) {k : Nat} (hk : k < O.length) : gt O k < O.length := by rw [gt_eq hk]; exact h.lt (List.getElem_mem hk)
theorem IsX.g_ix (h : IsX L O) {k : Nat} (hk : k < O.length) : O.idxOf (gt O k) = k := by rw [gt_eq hk]; exact h.ix_at hk
theorem IsX.ix_g (h : IsX L O) {b : Nat} (hb : b < O.length) : gt O (O.idxOf b) = b := by rw [gt_eq (h.ix hb)]; exact h.at_ix hb
theorem loA_g {k : Nat} (hk : k < O.length) : gt (loA L O) k = gt L (gt O k) := by rw [loA_at hk, gt_eq hk]
theorem invO_g {b : Nat} (hb : b < O.length) : gt (invO O) b = O.idxOf b := by rw [gt_eq (by rw [invO_len]; exact hb)]; exact invO_at hb
/-- the shift of a block -/
def sft (L O : List Nat) (b : Nat) : Int := (aft L O b : Int) - (pre L b : Int)
theorem IsX.T_sft (h : IsX L O) {p : Nat} (hp : p < L.sum) : (T L O p : Int) = (p : Int) + sft L O (blk L p) := by
  have := (blk_spec hp).2.1
  unfold T sft
  omega
end

/-! ### data of ints -/
def dN (O : List Nat) : List D := O.map fun n => .int ((n : Nat) : Int)
def dI (xs : List Int) : List D := xs.map D.int
abbrev tN (O : List Nat) : D := .tup (dN O)
abbrev lN (O : List Nat) : D := .lst (dN O)
abbrev tZ (O : List Int) : D := .tup (dI O)
abbrev lZ (O : List Int) : D := .lst (dI O)
abbrev exD (L O : List Nat) : D := .tup [tN L, tN O]
def zN (O : List Nat) : List Int := O.map fun n => ((n : Nat) : Int)
theorem dN_z (O : List Nat) : dN O = dI (zN O) := by unfold dN dI zN; rw [List.map_map]; rfl
theorem zN_inj : ∀ {A B : List Nat}, zN A = zN B → A = B
  | [], [], _ => rfl
  | a :: A, b :: B, h => by
    have h1 := List.cons.inj (show (a : Int) :: zN A = (b : Int) :: zN B from h)
    rw [zN_inj h1.2]
    have : a = b := by exact_mod_cast h1.1
    rw [this]
  | [], _ :: _, h => by cases h
  | _ :: _, [], h => by cases h
@[simp] theorem dN_len {O : List Nat} : (dN O).length = O.length := by unfold dN; simp
@[simp] theorem dI_len {O : List Int} : (dI O).length = O.length := by unfold dI; simp
@[simp] theorem dN_nil : dN [] = [] := rfl
@[simp] theorem dI_nil : dI [] = [] := rfl
@[simp] theorem zN_len {O : List Nat} : (zN O).length = O.length := by unfold zN; simp
theorem dN_snoc {O : List Nat} {n : Nat} : dN O ++ [.int (n : Int)] = dN (O ++ [n]) := by unfold dN; simp
theorem dI_snoc {O : List Int} {n : Int} : dI O ++ [.int n] = dI (O ++ [n]) := by unfold dI; simp
theorem dN_app {O U : List Nat} : dN O ++ dN U = dN (O ++ U) := by unfold dN; simp
theorem dI_app {O U : List Int} : dI O ++ dI U = dI (O ++ U) := by unfold dI; simp
theorem dN_get {O : List Nat} {i : Nat} (h : i < O.length) : (dN O)[i]? = some (.int (gt O i : Nat)) := by unfold dN; simp [gt_opt h]
theorem dN_at {O : List Nat} {i : Nat} {d : D} (h : (dN O)[i]? = some d) : i < O.length ∧ d = .int (gt O i : Nat) := by
  have hlt := (List.getElem?_eq_some_iff.mp h).1
  rw [dN_len] at hlt
  rw [dN_get hlt] at h
  exact ⟨hlt, (Option.some.inj h).symm⟩
/-- an item of a list of ints -/
def gz (A : List Int) (i : Nat) : Int := A.getD i 0
theorem gz_eq {A : List Int} {i : Nat} (h : i < A.length) : gz A i = A[i] := by unfold gz; rw [List.getD_eq_getElem?_getD, List.getElem?_eq_getElem h]; rfl
theorem gz_opt {A : List Int} {i : Nat} (h : i < A.length) : A[i]? = some (gz A i) := by rw [gz_eq h, List.getElem?_eq_getElem h]
theorem dI_get {O : List Int} {i : Nat} (h : i < O.length) : (dI O)[i]? = some (.int (gz O i)) := by unfold dI; simp [gz_opt h]
theorem dI_at {O : List Int} {i : Nat} {d : D} (h : (dI O)[i]? = some d) : i < O.length ∧ d = .int (gz O i) := by
  have hlt := (List.getElem?_eq_some_iff.mp h).1
  rw [dI_len] at hlt
  rw [dI_get hlt] at h
  exact ⟨hlt, (Option.some.inj h).symm⟩
theorem dI_set {O : List Int} {i : Nat} {x : Int} : (dI O).set i (.int x) = dI (O.set i x) := by unfold dI; rw [List.map_set]
theorem dN_set {O : List Nat} {i : Nat} {x : Nat} : (dN O).set i (.int (x : Int)) = dN (O.set i x) := by unfold dN; rw [List.map_set]
theorem er_map {α β : Type} {f : α → β} : ∀ {xs : List α} {i : Nat}, (xs.map f).eraseIdx i = (xs.eraseIdx i).map f
  | [], _ => rfl
  | x :: r, 0 => rfl
  | x :: r, i + 1 => by
    show f x :: (r.map f).eraseIdx i = f x :: (r.eraseIdx i).map f
    rw [er_map]
theorem dN_erase {O : List Nat} {i : Nat} : (dN O).eraseIdx i = dN (O.eraseIdx i) := by unfold dN; rw [er_map]
theorem dI_erase {O : List Int} {i : Nat} : (dI O).eraseIdx i = dI (O.eraseIdx i) := by unfold dI; rw [er_map]
theorem dN_rev {O : List Nat} : (dN O).reverse = dN O.reverse := by unfold dN; rw [List.map_reverse]
theorem dI_rev {O : List Int} : (dI O).reverse = dI O.reverse := by unfold dI; rw [List.map_reverse]
theorem dN_take {O : List Nat} {k : Nat} : (dN O).take k = dN (O.take k) := by unfold dN; rw [List.map_take]
theorem dN_drop {O : List Nat} {k : Nat} : (dN O).drop k = dN (O.drop k) := by unfold dN; rw [List.map_drop]
theorem dI_take {O : List Int} {k : Nat} : (dI O).take k = dI (O.take k) := by unfold dI; rw [List.map_take]
theorem dI_drop {O : List Int} {k : Nat} : (dI O).drop k = dI (O.drop k) := by unfold dI; rw [List.map_drop]
theorem rng_N {k : Nat} : rngD 0 k = dN (List.range k) := by rw [nrng]; rfl
theorem sum_z : ∀ (L : List Nat), (zN L).sum = ((L.sum : Nat) : Int)
  | [] => rfl
  | a :: r => by
    have := sum_z r
    show (a : Int) + (zN r).sum = _
    rw [this, List.sum_cons]; omega
theorem sum_tI {xs : List Int} : sumB [tZ xs] = some (.int xs.sum) := by
  show (match ints? (dI xs) with | some ns => some (D.int ns.sum) | none => none) = _
  unfold dI
  rw [ints?_map]
theorem sum_lI {xs : List Int} : sumB [lZ xs] = some (.int xs.sum) := by
  show (match ints? (dI xs) with | some ns => some (D.int ns.sum) | none => none) = _
  unfold dI
  rw [ints?_map]
@[simp] theorem sum_tN {L : List Nat} : sumB [tN L] = some (.int (L.sum : Nat)) := by
  show sumB [.tup (dN L)] = _
  rw [dN_z]; exact sum_tI.trans (by rw [sum_z])
@[simp] theorem sum_lN {L : List Nat} : sumB [lN L] = some (.int (L.sum : Nat)) := by
  show sumB [.lst (dN L)] = _
  rw [dN_z]; exact sum_lI.trans (by rw [sum_z])
theorem ix_t {O : List Nat} {i : Nat} (h : i < O.length) : idxD (tN O) (.int ((i : Nat) : Int)) = some (.int (gt O i : Nat)) := idx_t (dN_get h)
theorem ix_l {O : List Nat} {i : Nat} (h : i < O.length) : idxD (lN O) (.int ((i : Nat) : Int)) = some (.int (gt O i : Nat)) := idx_l (dN_get h)
theorem ix_tz {xs : List Int} {i : Nat} (h : i < xs.length) : idxD (tZ xs) (.int ((i : Nat) : Int)) = some (.int (gz xs i)) := idx_t (dI_get h)
theorem ix_lz {xs : List Int} {i : Nat} (h : i < xs.length) : idxD (lZ xs) (.int ((i : Nat) : Int)) = some (.int (gz xs i)) := idx_l (dI_get h)
theorem atI_neg1 {α : Type} {xs : List α} {x : α} (h : xs.getLast? = some x) : atI xs (-1) = some x := by
  have hne : 0 < xs.length := by
    cases xs with
    | nil => cases h
    | cons a r => simp
  have hx : ixN xs.length (-1) = some (xs.length - 1) := by
    unfold ixN
    rw [if_neg (by decide), if_pos (by omega)]
    congr 1
    omega
  unfold atI
  rw [hx, Option.bind_some, ← List.getLast?_eq_getElem?]
  exact h
theorem ixN_nat {n i : Nat} (h : i < n) : ixN n ((i : Nat) : Int) = some i := by
  unfold ixN
  rw [if_pos (Int.natCast_nonneg _), if_pos (by omega), Int.toNat_natCast]
theorem idxOf?_z : ∀ {O : List Nat} {b : Nat}, b ∈ O → (zN O).idxOf? ((b : Nat) : Int) = some (O.idxOf b)
  | a :: O, b, h => by
    show (((a : Nat) : Int) :: zN O).idxOf? ((b : Nat) : Int) = _
    rw [List.idxOf?_cons, List.idxOf_cons]
    by_cases c : a = b
    · subst c; simp
    · have c1 : (((a : Nat) : Int) == ((b : Nat) : Int)) = false := by simpa using fun z : (a : Int) = (b : Int) => c (by exact_mod_cast z)
      have c2 : (a == b) = false := by simpa using c
      rw [c1, c2]
      have hb : b ∈ O := by
        rcases List.mem_cons.mp h with rfl | h
        · exact absurd rfl c
        · exact h
      simp only [Bool.false_eq_true, if_false, idxOf?_z hb, Option.map_some, cond_false]
theorem index_t {O : List Nat} {b : Nat} (h : b ∈ O) : indexD (tN O) (.int ((b : Nat) : Int)) = some (.int ((O.idxOf b : Nat) : Int)) := by
  show (match ints? (dN O) with | some ns => idxL ns _ | none => none) = _
  rw [dN_z]
  unfold dI
  rw [ints?_map]
  show idxL (zN O) _ = _
  unfold idxL
  rw [idxOf?_z h]
theorem index_l {O : List Nat} {b : Nat} (h : b ∈ O) : indexD (lN O) (.int ((b : Nat) : Int)) = some (.int ((O.idxOf b : Nat) : Int)) := index_t h
@[simp] theorem ix_0 {a b : D} : idxD (.tup [a, b]) (.int 0) = some a := rfl
@[simp] theorem ix_1 {a b : D} : idxD (.tup [a, b]) (.int 1) = some b := rfl
theorem LN : LINE = 1000000 := rfl
theorem LM : LIM = 2305843009213693952 := rfl
theorem N_M : NMAX = 1000000000 := rfl
theorem wC_N {J : Type} {f : Ev J} [MoE f] {wm : Sd} {γ : Gv} {j : J} {P : List D → J → Prop} {O : List Nat} (h : Nat → D) (hs : ∀ x ∈ O, ∃ m1, γ (.int ((x : Nat) : Int)) wm = some m1 ∧ f m1 j (fun y j2 => y = h x ∧ j2 = j) xNo) (hd : P (O.map h) j) : WC wm γ tYesD f (dN O) j P := wC_map h hs hd
theorem wC_NF {J : Type} {f : Ev J} {t : Tv J} [MoT t] [MoE f] {wm : Sd} {γ : Gv} {j : J} {P : List D → J → Prop} {O : List Nat} (p : Nat → Bool) (h : Nat → D) (hs : ∀ x ∈ O, ∃ m1, γ (.int ((x : Nat) : Int)) wm = some m1 ∧ t m1 j (fun b j1 => b = p x ∧ j1 = j) xNo ∧ (p x = true → f m1 j (fun y j2 => y = h x ∧ j2 = j) xNo)) (hd : P ((O.filter p).map h) j) : WC wm γ t f (dN O) j P := wC_filter p h hs hd
/-- where the blocks begin -/
def begs (L : List Nat) : List Nat := (List.range L.length).map (pre L)
theorem begs_len {L : List Nat} : (begs L).length = L.length := by unfold begs; simp
theorem begs_at {L : List Nat} {i : Nat} (h : i < L.length) : gt (begs L) i = pre L i := by rw [gt_eq (by rw [begs_len]; exact h)]; unfold begs; simp
/-- the shifts of the blocks -/
def sfts (L O : List Nat) : List Int := (List.range O.length).map (sft L O)
theorem sfts_len {L O : List Nat} : (sfts L O).length = O.length := by unfold sfts; simp
theorem sfts_at {L O : List Nat} {b : Nat} (h : b < O.length) : gz (sfts L O) b = sft L O b := by rw [gz_eq (by rw [sfts_len]; exact h)]; unfold sfts; simp
theorem ext_gz {A B : List Int} (hl : A.length = B.length) (h : ∀ i, i < A.length → gz A i = gz B i) : A = B := by
  apply List.ext_getElem hl
  intro i h1 h2
  have := h i h1
  rwa [gz_eq h1, gz_eq h2] at this
theorem ext_gt {A B : List Nat} (hl : A.length = B.length) (h : ∀ i, i < A.length → gt A i = gt B i) : A = B := by
  apply List.ext_getElem hl
  intro i h1 h2
  have := h i h1
  rwa [gt_eq h1, gt_eq h2] at this
theorem gz_set {A : List Int} {i k : Nat} {x : Int} (h : i < A.length) : gz (A.set i x) k = if k = i then x else gz A k := by
  unfold gz
  rw [List.getD_eq_getElem?_getD, List.getD_eq_getElem?_getD]
  by_cases e : k = i
  · subst e; rw [if_pos rfl, List.getElem?_set_self h]; rfl
  · rw [if_neg e, List.getElem?_set_ne (fun z => e z.symm)]
theorem gt_set {A : List Nat} {i k : Nat} {x : Nat} (h : i < A.length) : gt (A.set i x) k = if k = i then x else gt A k := by
  unfold gt
  rw [List.getD_eq_getElem?_getD, List.getD_eq_getElem?_getD]
  by_cases e : k = i
  · subst e; rw [if_pos rfl, List.getElem?_set_self h]; rfl
  · rw [if_neg e, List.getElem?_set_ne (fun z => e z.symm)]
theorem rep_z {n : Nat} {a : Int} (h : n ≤ 1000000) : mulL (.lst [.int a]) (.int (n : Nat)) = some (lZ (List.replicate n a)) := by
  show (if _ then some (D.lst (rep (Int.toNat (n : Nat)) [.int a])) else none) = _
  rw [if_pos (by simp [LN]; omega)]
  unfold rep
  rw [Int.toNat_natCast]
  show _ = some (D.lst ((List.replicate n a).map D.int))
  simp

/-! ### slices, ==, in, sorted, repr -/
@[simp] theorem tru_bl {b : Bool} : truD (.bl b) = some b := rfl
@[simp] theorem cut_take {xs : List D} {k : Nat} : cutD xs none (some ((k : Nat) : Int)) = xs.take k := by
  unfold cutD
  have e1 : HT.sIx xs.length 0 none = 0 := rfl
  rw [e1, HT.sIx_nat, List.drop_zero, Nat.sub_zero]
  by_cases h : k ≤ xs.length
  · rw [Nat.min_eq_left h]
  · rw [Nat.min_eq_right (by omega), List.take_length, List.take_of_length_le (by omega)]
@[simp] theorem cut_drop {xs : List D} {k : Nat} : cutD xs (some ((k : Nat) : Int)) none = xs.drop k := by
  unfold cutD
  have e1 : HT.sIx xs.length xs.length none = xs.length := rfl
  rw [e1, HT.sIx_nat]
  by_cases h : k ≤ xs.length
  · rw [Nat.min_eq_left h, List.take_of_length_le (by simp)]
  · rw [Nat.min_eq_right (by omega), List.drop_length, List.drop_eq_nil_of_le (by omega)]; simp
@[simp] theorem cut_drop1 {xs : List D} : cutD xs (some 1) none = xs.drop 1 := cut_drop (k := 1)
@[simp] theorem cut_take1 {xs : List D} : cutD xs none (some 1) = xs.take 1 := cut_take (k := 1)
theorem cut_mid {xs : List D} {b e : Nat} (he : e ≤ xs.length) (hb : b ≤ e) : cutD xs (some ((b : Nat) : Int)) (some ((e : Nat) : Int)) = (xs.drop b).take (e - b) := by
  unfold cutD
  rw [HT.sIx_nat, HT.sIx_nat, Nat.min_eq_left he, Nat.min_eq_left (by omega)]
@[simp] theorem slice_t {xs : List D} {a b : Option Int} : sliceD (.tup xs) a b = some (.tup (cutD xs a b)) := rfl
@[simp] theorem slice_l {xs : List D} {a b : Option Int} : sliceD (.lst xs) a b = some (.lst (cutD xs a b)) := rfl
@[simp] theorem slice_L {xs : List D} {a b : Option Int} : sliceL (.lst xs) a b = some (.lst (cutD xs a b)) := rfl
theorem add_t {xs ys : List D} (h : xs.length + ys.length ≤ 1000000) : addD (.tup xs) (.tup ys) = some (.tup (xs ++ ys)) := if_pos h
theorem add_l {xs ys : List D} (h : xs.length + ys.length ≤ 1000000) : addD (.lst xs) (.lst ys) = some (.lst (xs ++ ys)) := if_pos h
mutual
/-- data of None, ints, strings -/
def pln : D → Bool
  | .non => true
  | .int _ => true
  | .tup xs => plnL xs
  | .lst xs => plnL xs
  | _ => false
def plnL : List D → Bool
  | [] => true
  | x :: xs => pln x && plnL xs
end
mutual
theorem py_pln : ∀ (d : D), pln d = true → ∃ p, py d = some p ∧ p.canLay0 = true ∧ p.depth = dpD d
  | .non, _ => ⟨_, rfl, rfl, rfl⟩
  | .int i, _ => ⟨_, rfl, rfl, rfl⟩
  | .tup xs, h => by
    obtain ⟨ps, h1, h2, h3⟩ := py_plnL xs h
    exact ⟨.tuple ps, by unfold py; rw [h1], h2, by show PyData.depthAll ps + 1 = _; rw [h3]; rfl⟩
  | .lst xs, h => by
    obtain ⟨ps, h1, h2, h3⟩ := py_plnL xs h
    exact ⟨.list ps, by unfold py; rw [h1], h2, by show PyData.depthAll ps + 1 = _; rw [h3]; rfl⟩
  | .bl _, h => by cases h
  | .str _, h => by cases h
  | .dct _, h => by cases h
  | .jar, h => by cases h
  | .obj _, h => by cases h
  | .ins _ _, h => by cases h
theorem py_plnL : ∀ (ds : List D), plnL ds = true → ∃ ps, pyL ds = some ps ∧ PyData.canLayAll0 ps = true ∧ PyData.depthAll ps = dpL ds
  | [], _ => ⟨[], rfl, rfl, rfl⟩
  | d :: ds, h => by
    unfold plnL at h
    rw [Bool.and_eq_true] at h
    obtain ⟨p, a1, a2, a3⟩ := py_pln d h.1
    obtain ⟨ps, h1, h2, h3⟩ := py_plnL ds h.2
    exact ⟨p :: ps, by unfold pyL; rw [a1, h1], by unfold PyData.canLayAll0; rw [a2, h2]; rfl, by unfold PyData.depthAll dpL; rw [a3, h3]⟩
end
mutual
theorem eqv_pln : ∀ (d e : D) {p q : PyData}, pln d = true → pln e = true → py d = some p → py e = some q → (PyData.eqv p q = true ↔ d = e)
  | .non, .non, p, q, _, _, h1, h2 => by cases h1; cases h2; simp [PyData.eqv]
  | .non, .int _, p, q, _, _, h1, h2 => by cases h1; cases h2; simp [PyData.eqv]
  | .int _, .non, p, q, _, _, h1, h2 => by cases h1; cases h2; simp [PyData.eqv]
  | .int a, .int b, p, q, _, _, h1, h2 => by cases h1; cases h2; simp [PyData.eqv]
  | .non, .tup xs, p, q, _, h, h1, h2 => by obtain ⟨ps, e, _⟩ := py_plnL xs h; cases h1; unfold py at h2; rw [e] at h2; cases h2; simp [PyData.eqv]
  | .non, .lst xs, p, q, _, h, h1, h2 => by obtain ⟨ps, e, _⟩ := py_plnL xs h; cases h1; unfold py at h2; rw [e] at h2; cases h2; simp [PyData.eqv]
  | .int _, .tup xs, p, q, _, h, h1, h2 => by obtain ⟨ps, e, _⟩ := py_plnL xs h; cases h1; unfold py at h2; rw [e] at h2; cases h2; simp [PyData.eqv]
  | .int _, .lst xs, p, q, _, h, h1, h2 => by obtain ⟨ps, e, _⟩ := py_plnL xs h; cases h1; unfold py at h2; rw [e] at h2; cases h2; simp [PyData.eqv]
  | .tup xs, .non, p, q, h, _, h1, h2 => by obtain ⟨ps, e, _⟩ := py_plnL xs h; cases h2; unfold py at h1; rw [e] at h1; cases h1; simp [PyData.eqv]
  | .lst xs, .non, p, q, h, _, h1, h2 => by obtain ⟨ps, e, _⟩ := py_plnL xs h; cases h2; unfold py at h1; rw [e] at h1; cases h1; simp [PyData.eqv]
  | .tup xs, .int _, p, q, h, _, h1, h2 => by obtain ⟨ps, e, _⟩ := py_plnL xs h; cases h2; unfold py at h1; rw [e] at h1; cases h1; simp [PyData.eqv]
  | .lst xs, .int _, p, q, h, _, h1, h2 => by obtain ⟨ps, e, _⟩ := py_plnL xs h; cases h2; unfold py at h1; rw [e] at h1; cases h1; simp [PyData.eqv]
  | .tup xs, .lst ys, p, q, h, g, h1, h2 => by obtain ⟨ps, e, _⟩ := py_plnL xs h; obtain ⟨qs, e', _⟩ := py_plnL ys g; unfold py at h1 h2; rw [e] at h1; rw [e'] at h2; cases h1; cases h2; simp [PyData.eqv]
  | .lst xs, .tup ys, p, q, h, g, h1, h2 => by obtain ⟨ps, e, _⟩ := py_plnL xs h; obtain ⟨qs, e', _⟩ := py_plnL ys g; unfold py at h1 h2; rw [e] at h1; rw [e'] at h2; cases h1; cases h2; simp [PyData.eqv]
  | .tup xs, .tup ys, p, q, h, g, h1, h2 => by
    obtain ⟨ps, e, _⟩ := py_plnL xs h; obtain ⟨qs, e', _⟩ := py_plnL ys g; unfold py at h1 h2; rw [e] at h1; rw [e'] at h2; cases h1; cases h2
    show PyData.eqvAll ps qs = true ↔ _
    rw [eqv_plnL xs ys h g e e']
    exact ⟨fun z => by rw [z], fun z => D.tup.inj z⟩
  | .lst xs, .lst ys, p, q, h, g, h1, h2 => by
    obtain ⟨ps, e, _⟩ := py_plnL xs h; obtain ⟨qs, e', _⟩ := py_plnL ys g; unfold py at h1 h2; rw [e] at h1; rw [e'] at h2; cases h1; cases h2
    show PyData.eqvAll ps qs = true ↔ _
    rw [eqv_plnL xs ys h g e e']
    exact ⟨fun z => by rw [z], fun z => D.lst.inj z⟩
theorem eqv_plnL : ∀ (ds es : List D) {ps qs : List PyData}, plnL ds = true → plnL es = true → pyL ds = some ps → pyL es = some qs → (PyData.eqvAll ps qs = true ↔ ds = es)
  | [], [], ps, qs, _, _, h1, h2 => by cases h1; cases h2; simp [PyData.eqvAll]
  | [], e :: es, ps, qs, _, h, h1, h2 => by
    obtain ⟨qs, e, _⟩ := py_plnL (e :: es) h
    cases h1
    rw [e] at h2; cases h2
    cases qs with
    | nil => unfold pyL at e; split at e <;> cases e
    | cons _ _ => simp [PyData.eqvAll]
  | d :: ds, [], ps, qs, h, _, h1, h2 => by
    obtain ⟨ps, e, _⟩ := py_plnL (d :: ds) h
    cases h2
    rw [e] at h1; cases h1
    cases ps with
    | nil => unfold pyL at e; split at e <;> cases e
    | cons _ _ => simp [PyData.eqvAll]
  | d :: ds, e :: es, ps, qs, h, g, h1, h2 => by
    unfold plnL at h g
    rw [Bool.and_eq_true] at h g
    obtain ⟨p, a1, _⟩ := py_pln d h.1
    obtain ⟨q, b1, _⟩ := py_pln e g.1
    obtain ⟨ps', a2, _⟩ := py_plnL ds h.2
    obtain ⟨qs', b2, _⟩ := py_plnL es g.2
    unfold pyL at h1 h2
    rw [a1, a2] at h1
    rw [b1, b2] at h2
    cases h1; cases h2
    show (PyData.eqv p q && PyData.eqvAll ps' qs') = true ↔ _
    rw [Bool.and_eq_true, eqv_pln d e h.1 g.1 a1 b1, eqv_plnL ds es h.2 g.2 a2 b2]
    exact ⟨fun z => by rw [z.1, z.2], fun z => List.cons.inj z⟩
end
theorem eqP_pln {d e : D} (h1 : pln d = true) (h2 : pln e = true) (d1 : dpD d ≤ 64) (d2 : dpD e ≤ 64) : eqP d e = some (@decide (d = e) (Classical.propDecidable _)) := by
  obtain ⟨p, a1, a2, a3⟩ := py_pln d h1
  obtain ⟨q, b1, b2, b3⟩ := py_pln e h2
  unfold eqP
  rw [a1, b1]
  have s1 : SeqAt.shaped p = true := by unfold SeqAt.shaped; rw [a2, a3]; simpa using d1
  have s2 : SeqAt.shaped q = true := by unfold SeqAt.shaped; rw [b2, b3]; simpa using d2
  simp only [s1, s2, Bool.and_self, if_true]
  congr 1
  rw [Bool.eq_iff_iff, eqv_pln d e h1 h2 a1 b1]
  simp
theorem eqD_t {xs ys : List D} (h1 : plnL xs = true) (h2 : plnL ys = true) (d1 : dpL xs ≤ 63) (d2 : dpL ys ≤ 63) : eqD (.tup xs) (.tup ys) = some (.bl (@decide (xs = ys) (Classical.propDecidable _))) := by
  have h : eqB (.tup xs) (.tup ys) = _ := eqP_pln (d := .tup xs) (e := .tup ys) h1 h2 (by show dpL xs + 1 ≤ 64; omega) (by show dpL ys + 1 ≤ 64; omega)
  unfold eqD; rw [h]
  simp
theorem eqD_l {xs ys : List D} (h1 : plnL xs = true) (h2 : plnL ys = true) (d1 : dpL xs ≤ 63) (d2 : dpL ys ≤ 63) : eqD (.lst xs) (.lst ys) = some (.bl (@decide (xs = ys) (Classical.propDecidable _))) := by
  have h : eqB (.lst xs) (.lst ys) = _ := eqP_pln (d := .lst xs) (e := .lst ys) h1 h2 (by show dpL xs + 1 ≤ 64; omega) (by show dpL ys + 1 ≤ 64; omega)
  unfold eqD; rw [h]
  simp
theorem neD_t {xs ys : List D} (h1 : plnL xs = true) (h2 : plnL ys = true) (d1 : dpL xs ≤ 63) (d2 : dpL ys ≤ 63) : neD (.tup xs) (.tup ys) = some (.bl (!@decide (xs = ys) (Classical.propDecidable _))) := by
  have h : eqB (.tup xs) (.tup ys) = _ := eqP_pln (d := .tup xs) (e := .tup ys) h1 h2 (by show dpL xs + 1 ≤ 64; omega) (by show dpL ys + 1 ≤ 64; omega)
  unfold neD; rw [h]
  simp
theorem neD_l {xs ys : List D} (h1 : plnL xs = true) (h2 : plnL ys = true) (d1 : dpL xs ≤ 63) (d2 : dpL ys ≤ 63) : neD (.lst xs) (.lst ys) = some (.bl (!@decide (xs = ys) (Classical.propDecidable _))) := by
  have h : eqB (.lst xs) (.lst ys) = _ := eqP_pln (d := .lst xs) (e := .lst ys) h1 h2 (by show dpL xs + 1 ≤ 64; omega) (by show dpL ys + 1 ≤ 64; omega)
  unfold neD; rw [h]
  simp
theorem eqD_ni {i : Int} : eqD (.non) (.int i) = some (.bl false) := by unfold eqD; rfl
@[simp] theorem pln_N : ∀ {O : List Nat}, plnL (dN O) = true
  | [] => rfl
  | a :: r => by show (pln (.int a) && plnL (dN r)) = true; rw [pln_N]; rfl
@[simp] theorem pln_I : ∀ {O : List Int}, plnL (dI O) = true
  | [] => rfl
  | a :: r => by show (pln (.int a) && plnL (dI r)) = true; rw [pln_I]; rfl
@[simp] theorem dp_N : ∀ {O : List Nat}, dpL (dN O) = 0
  | [] => rfl
  | a :: r => by show max (dpD (.int a)) (dpL (dN r)) = 0; rw [dp_N]; rfl
@[simp] theorem dp_I : ∀ {O : List Int}, dpL (dI O) = 0
  | [] => rfl
  | a :: r => by show max (dpD (.int a)) (dpL (dI r)) = 0; rw [dp_I]; rfl
theorem dI_inj {A B : List Int} (h : dI A = dI B) : A = B := (List.map_inj_right (f := D.int) (fun x y z => D.int.inj z)).mp h
theorem dN_inj {A B : List Nat} (h : dN A = dN B) : A = B := zN_inj (dI_inj (by rw [← dN_z, ← dN_z]; exact h))
@[simp] theorem dN_iff {A B : List Nat} : dN A = dN B ↔ A = B := ⟨dN_inj, fun h => by rw [h]⟩
@[simp] theorem dI_iff {A B : List Int} : dI A = dI B ↔ A = B := ⟨dI_inj, fun h => by rw [h]⟩
theorem eq_tN {A B : List Nat} : eqD (tN A) (tN B) = some (.bl (decide (A = B))) := by
  rw [eqD_t (by simp) (by simp) (by simp) (by simp)]
  simp
theorem eq_lN {A B : List Nat} : eqD (lN A) (lN B) = some (.bl (decide (A = B))) := by
  rw [eqD_l (by simp) (by simp) (by simp) (by simp)]
  simp
theorem ne_lN {A B : List Nat} : neD (lN A) (lN B) = some (.bl (!decide (A = B))) := by
  rw [neD_l (by simp) (by simp) (by simp) (by simp)]
  simp
theorem ne_tN {A B : List Nat} : neD (tN A) (tN B) = some (.bl (!decide (A = B))) := by
  rw [neD_t (by simp) (by simp) (by simp) (by simp)]
  simp
/-! in -/
theorem any_ints {xs : List Int} {i : Int} : ((xs.map PyData.int).any fun z => PyData.eqv z (.int i)) = decide (i ∈ xs) := by
  rw [Bool.eq_iff_iff]
  simp [PyData.eqv]
theorem inB_t {xs : List Int} {i : Int} : inB (.int i) (tZ xs) = some (decide (i ∈ xs)) := by
  have e : py (.tup (dI xs)) = some (.tuple (xs.map PyData.int)) := by unfold py dI; rw [pyInts]
  have s : SeqAt.shaped (.tuple (xs.map PyData.int)) = true := shaped_ints xs
  show (match py (.int i), py (.tup (dI xs)) with | some p, some (.list ds) => _ | some p, some (.tuple ds) => _ | _, _ => _) = _
  rw [e]
  show (if (SeqAt.shaped (.int i) && SeqAt.shaped (.tuple (xs.map PyData.int))) = true then some ((xs.map PyData.int).any fun z => PyData.eqv z (.int i)) else none) = _
  rw [s, any_ints]
  rfl
theorem inB_l {xs : List Int} {i : Int} : inB (.int i) (lZ xs) = some (decide (i ∈ xs)) := by
  have e : py (.lst (dI xs)) = some (.list (xs.map PyData.int)) := by unfold py dI; rw [pyInts]
  have s : SeqAt.shaped (.list (xs.map PyData.int)) = true := shaped_ints xs
  show (match py (.int i), py (.lst (dI xs)) with | some p, some (.list ds) => _ | some p, some (.tuple ds) => _ | _, _ => _) = _
  rw [e]
  show (if (SeqAt.shaped (.int i) && SeqAt.shaped (.list (xs.map PyData.int))) = true then some ((xs.map PyData.int).any fun z => PyData.eqv z (.int i)) else none) = _
  rw [s, any_ints]
  rfl
theorem mem_z {O : List Nat} {i : Int} : i ∈ zN O ↔ ∃ n ∈ O, i = (n : Nat) := by
  unfold zN; simp only [List.mem_map]
  exact ⟨fun ⟨n, h, e⟩ => ⟨n, h, e.symm⟩, fun ⟨n, h, e⟩ => ⟨n, h, e.symm⟩⟩
theorem mem_zn {O : List Nat} {n : Nat} : ((n : Nat) : Int) ∈ zN O ↔ n ∈ O := by
  rw [mem_z]
  exact ⟨fun ⟨k, h, e⟩ => by have : n = k := by omega
                             rw [this]; exact h, fun h => ⟨n, h, rfl⟩⟩
theorem in_tN {O : List Nat} {n : Nat} : inD (.int (n : Nat)) (tN O) = some (.bl (decide (n ∈ O))) := by
  unfold inD
  show (match inB (.int (n : Nat)) (.tup (dN O)) with | some b => some (D.bl b) | none => none) = _
  rw [dN_z, inB_t]
  simp [mem_zn]
theorem in_lN {O : List Nat} {n : Nat} : inD (.int (n : Nat)) (lN O) = some (.bl (decide (n ∈ O))) := by
  unfold inD
  show (match inB (.int (n : Nat)) (.lst (dN O)) with | some b => some (D.bl b) | none => none) = _
  rw [dN_z, inB_l]
  simp [mem_zn]
theorem nin_tZ {O : List Nat} {i : Int} : ninD (.int i) (tN O) = some (.bl (!decide (i ∈ zN O))) := by
  unfold ninD
  show (match inB (.int i) (.tup (dN O)) with | some b => some (D.bl (!b)) | none => none) = _
  rw [dN_z, inB_t]
theorem nin_lZ {O : List Nat} {i : Int} : ninD (.int i) (lN O) = some (.bl (!decide (i ∈ zN O))) := by
  unfold ninD
  show (match inB (.int i) (.lst (dN O)) with | some b => some (D.bl (!b)) | none => none) = _
  rw [dN_z, inB_l]
/-! sorted -/
theorem sort_l {xs : List Int} : sortD [lZ xs] = some (lZ (isort xs)) := by
  show (match ints? (dI xs) with | some ns => some (D.lst ((isort ns).map D.int)) | none => none) = _
  unfold dI
  rw [ints?_map]
  rfl
theorem sort_t {xs : List Int} : sortD [tZ xs] = some (lZ (isort xs)) := by
  show (match ints? (dI xs) with | some ns => some (D.lst ((isort ns).map D.int)) | none => none) = _
  unfold dI
  rw [ints?_map]
  rfl
/-- sorted, where the answer is known -/
theorem sort_lN {A B : List Nat} (hp : B.Perm A) (hs : B.Pairwise (· ≤ ·)) : sortD [lN A] = some (lN B) := by
  show sortD [.lst (dN A)] = some (.lst (dN B))
  rw [dN_z, sort_l, dN_z, ← isort_unique (ns := zN A) (ns' := zN B) (hp.map _) (by unfold zN; exact List.pairwise_map.mpr (hs.imp fun {a b} h => by omega))]
theorem sort_tN {A B : List Nat} (hp : B.Perm A) (hs : B.Pairwise (· ≤ ·)) : sortD [tN A] = some (lN B) := by
  show sortD [.tup (dN A)] = some (.lst (dN B))
  rw [dN_z, sort_t, dN_z, ← isort_unique (ns := zN A) (ns' := zN B) (hp.map _) (by unfold zN; exact List.pairwise_map.mpr (hs.imp fun {a b} h => by omega))]
/-! repr -/
theorem shw_N : ∀ {O : List Nat}, (∀ x ∈ O, x ≤ 10 ^ 20) → shwL (dN O) = true
  | [], _ => rfl
  | a :: r, h => by
    show (sm (a : Int) && shwL (dN r)) = true
    rw [shw_N fun x hx => h x (List.mem_cons_of_mem _ hx), sm_of (by omega) (by have := h a List.mem_cons_self; omega)]
    rfl
theorem sz_N : ∀ {O : List Nat}, szL (dN O) = 72 * O.length
  | [] => rfl
  | a :: r => by show szD (.int a) + 2 + szL (dN r) = _; rw [sz_N]; simp [szD]; omega
theorem shw_ex {L O : List Nat} (h1 : ∀ x ∈ L, x ≤ 10 ^ 20) (h2 : ∀ x ∈ O, x ≤ 10 ^ 20) : shw (exD L O) = true := by
  show (shwL (dN L) && (shwL (dN O) && true)) = true
  rw [shw_N h1, shw_N h2]; rfl
theorem dp_ex {L O : List Nat} : dpD (exD L O) = 2 := by
  show max (dpL (dN L) + 1) (max (dpL (dN O) + 1) 0) + 1 = 2
  rw [dp_N, dp_N]; rfl
theorem sz_ex {L O : List Nat} : szD (exD L O) = 72 * (L.length + O.length) + 16 := by
  show (szL (dN L) + 4) + 2 + ((szL (dN O) + 4) + 2 + 0) + 4 = _
  rw [sz_N, sz_N]; omega
theorem rep_ex {L O : List Nat} (h1 : ∀ x ∈ L, x ≤ 10 ^ 20) (h2 : ∀ x ∈ O, x ≤ 10 ^ 20) (h3 : L.length ≤ 1000) (h4 : O.length ≤ 1000) : ∃ x, reprB [exD L O] = some (.str x) := by
  obtain ⟨z, e, x, rfl⟩ := reprB_ok (P := fun z => ∃ x, z = .str x) (shw_ex h1 h2) (by rw [dp_ex]; omega) (by rw [sz_ex]; omega) fun x _ => ⟨x, rfl⟩
  exact ⟨x, e⟩

/-! ### star defs, sets -/
@[simp ↓] theorem a_star_i {J : Type} {fa : Ev J} {fr : Av J} {m : Sd} {j : J} {P : List D → J → Prop} {E : XP J} : aStar fa fr m j P E = fa m j (fun x j1 => ∃ xs, seqT x = some xs ∧ fr m j1 (fun ys j2 => P (xs ++ ys) j2) E) E := rfl
@[simp] theorem sqT_l {xs : List D} : seqT (.lst xs) = some xs := rfl
@[simp] theorem sqT_t {xs : List D} : seqT (.tup xs) = some xs := rfl
@[simp] theorem gL_i {γ : Gvs} {ds : List D} {m : Sd} : gLs γ (.lst ds) m = γ ds m := rfl
theorem a_runV {J : Type} {s : Sv J} {k n x : Nat} {ds : List D} {j : J} {P : D → J → Prop} {E : Ex → J → Prop} (h1 : n ≤ ds.length) (h2 : ds.length ≤ n + x) (h : s (startD k (ds.take n ++ [.tup (ds.drop n)])) j (endF P) (fun e _ j' => E e j')) : WF (runV k n x s) ds j P E := by
  refine ⟨h1, h2, ?_, h⟩
  simp; omega
theorem sset_l {A B : List Nat} (h : A.length < 4000) (hs : B.Pairwise (· < ·)) (hm : ∀ k, k ∈ B ↔ k ∈ A) : sortSetD (lN A) = some (lN B) := by
  show ssI (dN A) = some (.lst (dN B))
  have e : ssort (zN A) = zN B := ssort_of (by unfold zN; exact List.pairwise_map.mpr (hs.imp fun {a b} h => by omega)) fun k => by
    rw [mem_z, mem_z]
    exact ⟨fun ⟨n, h1, h2⟩ => ⟨n, (hm n).mp h1, h2⟩, fun ⟨n, h1, h2⟩ => ⟨n, (hm n).mpr h1, h2⟩⟩
  rw [dN_z, dN_z]
  unfold dI
  rw [ssI_of (by simpa using h), e]
theorem sset_t {A B : List Nat} (h : A.length < 4000) (hs : B.Pairwise (· < ·)) (hm : ∀ k, k ∈ B ↔ k ∈ A) : sortSetD (tN A) = some (lN B) := sset_l h hs hm
theorem lset_l {A B : List Nat} (h : A.length < 1000) (hs : B.Pairwise (· < ·)) (hm : ∀ k, k ∈ B ↔ k ∈ A) : lenSetD (lN A) = some (.int (B.length : Nat)) := by
  show slI (dN A) = _
  have e : ssort (zN A) = zN B := ssort_of (by unfold zN; exact List.pairwise_map.mpr (hs.imp fun {a b} h => by omega)) fun k => by
    rw [mem_z, mem_z]
    exact ⟨fun ⟨n, h1, h2⟩ => ⟨n, (hm n).mp h1, h2⟩, fun ⟨n, h1, h2⟩ => ⟨n, (hm n).mpr h1, h2⟩⟩
  rw [dN_z]
  unfold dI
  rw [slI_of (by simpa using h), e]
  simp
section
variable {L O : List Nat} {j : Nat} {P : D → Nat → Prop} {E : Ex → Nat → Prop}
theorem w_draw {k : Int} (hk : 0 < k) (hs : k ≤ 10 ^ 59) (hn : j < NMAX) (q : ∀ v : Nat, (v : Int) < k → P (.int (v : Nat)) (j + 1)) : WF drawF [.jar, .int k] j P E :=
  ⟨k, rfl, hk, sm_of (by omega) hs, hn, fun v v0 v1 => by
    obtain ⟨i, rfl⟩ := Int.eq_ofNat_of_zero_le v0
    exact q i v1⟩
theorem ne_nil {xs : List Nat} : neD (lN xs) (.lst []) = some (.bl (!decide (xs = []))) := by
  have h1 : eqB (lN xs) (.lst []) = some (decide (xs = [])) := by
    show eqP (.lst (dN xs)) (.lst []) = _
    rw [dN_z]
    unfold eqP
    have e1 : py (.lst (dI (zN xs))) = some (.list ((zN xs).map PyData.int)) := by unfold py dI; rw [pyInts]
    have e2 : py (.lst []) = some (.list []) := rfl
    rw [e1, e2]
    simp only [shaped_ints, show SeqAt.shaped (.list []) = true by decide, Bool.and_self, if_true]
    congr 1
    cases xs with
    | nil => rfl
    | cons x r =>
      show PyData.eqv (.list (((x : Int) :: zN r).map PyData.int)) (.list []) = _
      rw [eqv_cons]; simp
  unfold neD
  rw [h1]
theorem perm_erase {α : Type} : ∀ {xs : List α} {i : Nat} (h : i < xs.length), ([xs[i]] ++ xs.eraseIdx i).Perm xs
  | x :: r, 0, h => List.Perm.refl _
  | x :: r, i + 1, h => by
    have ih := perm_erase (xs := r) (i := i) (by simpa using h)
    have hi : i < r.length := by simpa using h
    show (r[i] :: x :: r.eraseIdx i).Perm (x :: r)
    exact (List.Perm.swap _ _ _).trans (List.Perm.cons _ ih)

theorem w_far {k : Int} (hk : 0 < k) (hs : k ≤ 10 ^ 59) (hn : j + 2 ≤ NMAX) (q : ∀ v : Nat, (v : Int) < k → P (.int (v : Nat)) (j + 2)) : WF F_far [.jar, .int k] j P E := by
  refine a_run rfl ?_
  show f_far [some .jar, some (.int k)] j _ _
  have e7 : powD (.int 10) (.int 7) = some (.int 10000000) := rfl
  have e6 : powD (.int 10) (.int 6) = some (.int 1000000) := rfl
  simp [f_far, e7, e6]
  refine w_draw (by decide) (by decide) (by omega) fun v v1 => ?_
  simp [e6, mul_i (a := (v : Int)) (b := 1000000) (sm_of (by omega) (by omega)) (by decide)]
  refine w_draw (by decide) (by decide) (by omega) fun u u1 => ?_
  simp [mod_i hk]
  have h0 := Int.emod_nonneg ((v : Int) * 1000000 + (u : Int)) (show k ≠ 0 by omega)
  have h1 := Int.emod_lt_of_pos ((v : Int) * 1000000 + (u : Int)) hk
  obtain ⟨i, hi⟩ := Int.eq_ofNat_of_zero_le h0
  rw [hi] at h1 ⊢
  exact q i h1

theorem w_pick {xs : List D} (hx : xs ≠ []) (hl : xs.length ≤ 1000000) (hn : j + 1 ≤ NMAX) (q : ∀ x, x ∈ xs → P x (j + 1)) : WF F_pick [.jar, .lst xs] j P E := by
  refine a_run rfl ?_
  show f_pick [some .jar, some (.lst xs)] j _ _
  have hp : 0 < xs.length := List.length_pos_iff.mpr hx
  simp [f_pick]
  refine w_draw (by omega) (by omega) (by omega) fun i v1 => ?_
  have hi : i < xs.length := by omega
  exact ⟨xs[i], idx_l (List.getElem?_eq_getElem hi), q _ (List.getElem_mem hi)⟩

theorem w_mixed {xs : List Nat} (hl : xs.length ≤ 100000) (hn : j + xs.length ≤ NMAX) (q : ∀ ys : List Nat, ys.Perm xs → P (lN ys) (j + xs.length)) : WF F_mixed [.jar, lN xs] j P E := by
  refine a_run rfl ?_
  show f_mixed [some .jar, some (lN xs), none, none] j _ _
  have hL := LN
  simp [f_mixed]
  refine wH_inv (fun n m j' => ∃ r f : List Nat, Is m [some .jar, some (lN xs), some (lN r), some (lN f)] ∧ r.length = n ∧ r.length + f.length = xs.length ∧ j' = j + f.length ∧ (f ++ r).Perm xs) xs.length ⟨xs, [], rfl, rfl, rfl, rfl, List.Perm.refl _⟩ ?_
  rintro n m j' ⟨r, f, rfl, rfl, h1, rfl, hp⟩
  simp [ne_nil]
  by_cases hr : r = []
  · subst hr
    simp
    have e : f.length = xs.length := by simpa using h1
    rw [e]
    exact q f (by simpa using hp)
  · simp [hr]
    have : 0 < r.length := List.length_pos_iff.mpr hr
    refine w_draw (by omega) (by omega) (by omega) fun i v1 => ?_
    have hi : i < r.length := by omega
    simp
    refine ⟨by omega, by omega, by omega, _, dN_get hi, ?_⟩
    rw [dN_erase, dN_snoc]
    refine ⟨(r.eraseIdx i).length, by rw [List.length_eraseIdx_of_lt hi]; omega, _, _, rfl, rfl, by rw [List.length_eraseIdx_of_lt hi]; simp; omega, by simp; omega, ?_⟩
    rw [List.append_assoc, gt_eq hi]
    exact (List.Perm.append_left f (perm_erase hi)).trans hp

theorem w_drawn {most wide : Nat} (hm : 1 ≤ most) (hm2 : most ≤ 1000) (hw : wide ≤ 10 ^ 18) (hn : j + 3 * most + 3 ≤ NMAX) (q : ∀ L O j', IsX L O → O.length ≤ most → (∀ x ∈ L, x * O.length ≤ max O.length (max 1000 wide)) → j' ≤ j + 3 * most + 3 → P (exD L O) j') : WF F_drawn [.jar, .int most, .int wide] j P E := by
  refine a_run rfl ?_
  show f_drawn [some .jar, some (.int most), some (.int wide), none, none, none, none, none] j _ _
  have hL := LN
  have hI := LM
  simp [f_drawn]
  refine w_draw (by omega) (by omega) (by omega) fun i v1 => ?_
  simp [rngD_length]
  obtain ⟨n, e1, hn0⟩ : ∃ n : Nat, 1 + (i : Int) = (n : Int) ∧ n = 1 + i := ⟨1 + i, by omega, rfl⟩
  rw [e1]
  refine ⟨by omega, ?_⟩
  refine w_pick (by simp) (by simp) (by omega) fun x hx => ?_
  obtain ⟨g, rfl, hg⟩ : ∃ g : Nat, x = .int g ∧ g ≤ max 1000 wide := by
    simp at hx
    rcases hx with rfl | rfl | rfl | rfl
    · exact ⟨3, rfl, by omega⟩
    · exact ⟨9, rfl, by omega⟩
    · exact ⟨1000, rfl, by omega⟩
    · exact ⟨wide, rfl, by omega⟩
  simp [rngD_length]
  refine ⟨by omega, by omega, by omega, by omega, ?_⟩
  refine wC_inv (fun k acc j' => j' = j + 2 + 2 * k ∧ ∃ L : List Nat, acc = dN L ∧ L.length = k ∧ (∀ x ∈ L, 0 < x) ∧ ∀ x ∈ L, x * n ≤ max n (max 1000 wide)) ⟨rfl, [], rfl, rfl, by simp, by simp⟩ (fun k d acc j3 hd hh => ?_) fun ys j3 hh => ?_
  · obtain ⟨rfl, L, rfl, rfl, h1, h2⟩ := hh
    have hacc : L.length < n := by
      have := (List.getElem?_eq_some_iff.mp hd).1
      rwa [rngD_length] at this
    simp [div_i (a := (g : Int)) (show (0 : Int) < (n : Int) by omega) (sm_of (by omega) (by omega))]
    obtain ⟨mx, hM, m1, m2, m3⟩ : ∃ mx : Nat, (if 1 < (g : Int) / (n : Int) then (g : Int) / (n : Int) else 1) = (mx : Int) ∧ 1 ≤ mx ∧ mx ≤ 10 ^ 59 ∧ mx * n ≤ max n (max 1000 wide) := by
      have e2 : (g : Int) / (n : Int) = ((g / n : Nat) : Int) := (Int.natCast_ediv g n).symm
      have hq : g / n ≤ g := Nat.div_le_self _ _
      have hq2 : g / n * n ≤ g := Nat.div_mul_le_self _ _
      rw [e2]
      split
      · exact ⟨g / n, rfl, by omega, by omega, by omega⟩
      · exact ⟨1, rfl, by omega, by omega, by omega⟩
    rw [hM]
    refine w_far (by omega) (by omega) (by omega) fun v v1 => ?_
    simp
    have e3 : (1 : Int) + (v : Int) = ((1 + v : Nat) : Int) := by omega
    refine ⟨by omega, L ++ [1 + v], by rw [e3, dN_snoc], by simp, fun x hx => ?_, fun x hx => ?_⟩
    · rcases List.mem_append.mp hx with hx | hx
      · exact h1 x hx
      · rw [List.mem_singleton.mp hx]; omega
    · rcases List.mem_append.mp hx with hx | hx
      · exact h2 x hx
      · rw [List.mem_singleton.mp hx]
        have : (1 + v) * n ≤ mx * n := Nat.mul_le_mul_right _ (by omega)
        omega
  · obtain ⟨rfl, L, rfl, hl, h1, h2⟩ := hh
    rw [rngD_length] at hl
    simp [rngD_length]
    refine ⟨by omega, by omega, by omega, ?_⟩
    rw [rng_N]
    refine w_mixed (by simp; omega) (by simp; omega) fun O hp => ?_
    have lO : O.length = n := by rw [hp.length_eq, List.length_range]
    have hex : ∀ O' : List Nat, O'.Perm (List.range n) → IsX L O' := fun O' hO => by
      have l' : O'.length = n := by rw [hO.length_eq, List.length_range]
      exact ⟨by omega, by omega, by rw [l']; exact hO, h1⟩
    simp
    refine w_draw (by decide) (by decide) (by omega) fun v v1 => ?_
    have hj : j + 2 + 2 * n + n + 1 ≤ j + 3 * most + 3 := by omega
    by_cases hv : v = 0
    · simp [hv, rngD_length]
      refine ⟨by omega, by omega, by omega, by omega, ?_⟩
      have := q L (List.range n).reverse _ (hex _ (List.reverse_perm _)) (by simp; omega) (by simpa using h2) hj
      rw [rng_N, dN_rev]
      exact this
    · simp [hv]
      exact ⟨by omega, q L O _ (hex O hp) (by omega) (by rw [lO]; exact h2) hj⟩
end

section
variable {L O : List Nat} {j : Nat} {P : D → Nat → Prop} {E : Ex → Nat → Prop}
theorem isi_int {v : D} (hv : (tyD v).isSome = true) : isiD "int" v = some (.bl (match v with | .int _ => true | .bl _ => true | _ => false)) := by
  cases v <;> first | rfl | (simp [tyD] at hv)
theorem isi_bool {v : D} (hv : (tyD v).isSome = true) : isiD "bool" v = some (.bl (match v with | .bl _ => true | _ => false)) := by
  cases v <;> first | rfl | (simp [tyD] at hv)
def isTpl : D → Bool
  | .tup _ => true
  | _ => false
theorem isi_tuple {v : D} (hv : (tyD v).isSome = true) : isiD "tuple" v = some (.bl (isTpl v)) := by
  cases v <;> first | rfl | (simp [tyD] at hv)
theorem isTpl_t {xs : List D} : isTpl (.tup xs) = true := rfl
theorem isTpl_n {v : D} (h : ¬ ∃ xs, v = .tup xs) : isTpl v = false := by
  cases v <;> first | rfl | exact absurd ⟨_, rfl⟩ h
def isPl (v : D) (lo hi : Int) : Bool := match v with | .int p => decide (lo ≤ p ∧ p ≤ hi) | _ => false
theorem w_is_integerG {v : D} {lo hi : Int} (hv : (tyD v).isSome = true) (q : P (.bl (isPl v lo hi)) j) : WF F_p_is_integer [v, .int lo, .int hi] j P E := by
  by_cases hi' : ∃ p, v = .int p
  · obtain ⟨p, rfl⟩ := hi'
    refine a_run rfl ?_
    show f_p_is_integer [some (.int p), some (.int lo), some (.int hi)] j _ _
    have e1 : isiD "int" (.int p) = some (.bl true) := rfl
    have e2 : isiD "bool" (.int p) = some (.bl false) := rfl
    simp [f_p_is_integer, e1, e2, truD]
    have : isPl (.int p) lo hi = decide (lo ≤ p ∧ p ≤ hi) := rfl
    rw [this] at q
    by_cases c1 : lo ≤ p
    · by_cases c2 : p ≤ hi
      · simp [c1, c2] at q ⊢; exact .inr q
      · simp [c1, c2] at q ⊢; exact .inr q
    · simp [c1] at q ⊢; exact ⟨by omega, q⟩
  · refine a_run rfl ?_
    show f_p_is_integer [some v, some (.int lo), some (.int hi)] j _ _
    simp [f_p_is_integer, isi_int hv, isi_bool hv]
    cases v <;> first | exact absurd ⟨_, rfl⟩ hi' | (simp [truD]; exact q)
theorem w_is_inG {v : D} {lo hi : Int} (hv : (tyD v).isSome = true) (q : P (.bl (isPl v lo hi)) j) : WF F_is_in [v, .int lo, .int hi] j P E := by
  by_cases hi' : ∃ p, v = .int p
  · obtain ⟨p, rfl⟩ := hi'
    refine a_run rfl ?_
    show f_is_in [some (.int p), some (.int lo), some (.int hi)] j _ _
    have e1 : isiD "int" (.int p) = some (.bl true) := rfl
    have e2 : isiD "bool" (.int p) = some (.bl false) := rfl
    simp [f_is_in, e1, e2, truD]
    have : isPl (.int p) lo hi = decide (lo ≤ p ∧ p ≤ hi) := rfl
    rw [this] at q
    by_cases c1 : lo ≤ p
    · by_cases c2 : p ≤ hi
      · simp [c1, c2] at q ⊢; exact .inr q
      · simp [c1, c2] at q ⊢; exact .inr q
    · simp [c1] at q ⊢; exact ⟨by omega, q⟩
  · refine a_run rfl ?_
    show f_is_in [some v, some (.int lo), some (.int hi)] j _ _
    simp [f_is_in, isi_int hv, isi_bool hv]
    cases v <;> first | exact absurd ⟨_, rfl⟩ hi' | (simp [truD]; exact q)
/-- the first item that fails -/
def fstF (p : D → Bool) : Nat → List D → Option Nat
  | _, [] => none
  | k, x :: xs => if p x then fstF p (k + 1) xs else some k
theorem fstF_cons {p : D → Bool} {k : Nat} {x : D} {xs : List D} : fstF p k (x :: xs) = if p x = true then fstF p (k + 1) xs else some k := rfl
theorem fstF_none {p : D → Bool} : ∀ {xs : List D} {k : Nat}, fstF p k xs = none → ∀ x ∈ xs, p x = true
  | [], _, _, x, hx => by cases hx
  | a :: xs, k, h, x, hx => by
    rw [fstF_cons] at h
    by_cases c : p a = true
    · rw [if_pos c] at h
      rcases List.mem_cons.mp hx with rfl | hx
      · exact c
      · exact fstF_none h x hx
    · rw [if_neg c] at h; cases h
def zS : List D → Int
  | [] => 0
  | .int i :: xs => i + zS xs
  | _ :: xs => zS xs
theorem zS_ints {lo hi : Int} : ∀ {xs : List D}, (∀ x ∈ xs, isPl x lo hi = true) → ∃ ns, ints? xs = some ns ∧ ns.sum = zS xs
  | [], _ => ⟨[], rfl, rfl⟩
  | x :: xs, h => by
    obtain ⟨ns, h1, h2⟩ := zS_ints (xs := xs) fun y hy => h y (List.mem_cons_of_mem _ hy)
    have hx := h x List.mem_cons_self
    cases x with
    | int i => exact ⟨i :: ns, by unfold ints?; rw [h1], by rw [List.sum_cons, h2]; rfl⟩
    | _ => cases hx
theorem sum_zS {lo hi : Int} {xs : List D} (h : ∀ x ∈ xs, isPl x lo hi = true) : sumB [.tup xs] = some (.int (zS xs)) := by
  obtain ⟨ns, h1, h2⟩ := zS_ints h
  show (match ints? xs with | some ns => some (D.int ns.sum) | none => none) = _
  rw [h1, ← h2]
def memI (x : D) (met : List D) : Bool := met.any fun d => match d, x with | .int a, .int b => decide (a = b) | _, _ => false
def fstB (n : Nat) : Nat → List D → List D → Option Nat
  | _, _, [] => none
  | k, met, x :: xs => if (isPl x 0 ((n : Int) - 1) && !memI x met) = true then fstB n (k + 1) (met ++ [x]) xs else some k
def eT (k : D) (s : Str) : D := .tup [k, .str s]
def errO (n : Nat) (os : List D) : D := if os.length ≠ n then eT .non "order" else match fstB os.length 0 [] os with
  | some k => eT (.int (k : Nat)) "block"
  | none => .non
def errL (ls : List D) : D := if ls.length = 0 ∨ 6 < ls.length then eT .non "count" else match fstF (fun x => isPl x 1 1000000000000) 0 ls with
  | some k => eT (.int (k : Nat)) "length"
  | none => if 1000000000000 < zS ls then eT .non "places" else .non
def errF : D → D
  | .tup [.tup ls, .tup os] => match errL ls with
    | .non => errO ls.length os
    | d => d
  | _ => eT .non "pair"
/-- what is asked of a list of items -/
def Its (xs : List D) : Prop := xs.length ≤ 100 ∧ ∀ x ∈ xs, (tyD x).isSome = true
theorem w_lengths_error {ls : List D} (h : Its ls) (q : P (errL ls) j) : WF F_p_lengths_error [.tup ls] j P E := by
  refine a_run rfl ?_
  show f_p_lengths_error [some (.tup ls), none, none] j _ _
  have hL := LN
  have hl := h.1
  simp [f_p_lengths_error]
  have hq : ∀ r, errL ls = r → P r j := fun r e => e ▸ q
  by_cases c1 : ls.length < 1
  · refine .inl ⟨by omega, by omega, hq _ ?_⟩
    unfold errL; rw [if_pos (by omega)]; rfl
  refine .inr ⟨by omega, ?_⟩
  by_cases c2 : 6 < ls.length
  · refine .inl ⟨by omega, by omega, hq _ ?_⟩
    unfold errL; rw [if_pos (by omega)]; rfl
  refine .inr ⟨by omega, ?_⟩
  have e0 : errL ls = match fstF (fun x => isPl x 1 1000000000000) 0 ls with
    | some k => eT (.int (k : Nat)) "length"
    | none => if 1000000000000 < zS ls then eT .non "places" else .non := by
    unfold errL; rw [if_neg (by omega)]
  obtain ⟨j0, ej⟩ : ∃ j0, j0 = j := ⟨_, rfl⟩
  obtain ⟨r0, er⟩ : ∃ r0, fstF (fun x => isPl x 1 1000000000000) 0 ls = r0 := ⟨_, rfl⟩
  rw [er] at e0
  refine wL_inv (fun k m j' => j' = j0 ∧ fstF (fun x => isPl x 1 1000000000000) k (ls.drop k) = r0 ∧ ∃ a b, Is m [some (.tup ls), a, b]) ⟨ej.symm, er, _, _, rfl⟩ ?_ ?_
  · rintro k d m j' hd ⟨rfl, hf, a, b, rfl⟩
    have hk : k < ls.length := by
      have := (List.getElem?_eq_some_iff.mp hd).1
      rwa [enumD_length] at this
    rw [enumD_get (List.getElem?_eq_getElem hk)] at hd
    cases hd
    refine ⟨_, rfl, ?_⟩
    rw [List.drop_eq_getElem_cons hk] at hf
    rw [fstF_cons] at hf
    simp
    refine w_is_integerG (h.2 _ (List.getElem_mem hk)) ?_
    cases c : isPl ls[k] 1 1000000000000 with
    | true =>
      rw [c, if_pos rfl] at hf
      simp [truD]
      exact ⟨hf, _, _, rfl⟩
    | false =>
      rw [c] at hf
      simp [truD]
      refine ⟨by omega, ?_⟩
      rw [ej]
      refine hq _ ?_
      rw [e0, ← hf]; rfl
  · rintro m j' ⟨rfl, hf, a, b, rfl⟩
    rw [enumD_length, List.drop_length] at hf
    have hf : none = r0 := hf
    subst hf
    have es := sum_zS (fstF_none er)
    simp [es]
    have e0 : errL ls = if 1000000000000 < zS ls then eT .non "places" else .non := e0
    rw [ej]
    by_cases c3 : 1000000000000 < zS ls
    · rw [if_pos c3] at e0
      exact .inl ⟨c3, by omega, hq _ e0⟩
    · rw [if_neg c3] at e0
      exact .inr ⟨by omega, hq _ e0⟩
theorem fstB_cons {n k : Nat} {met : List D} {x : D} {xs : List D} : fstB n k met (x :: xs) = if (isPl x 0 ((n : Int) - 1) && !memI x met) = true then fstB n (k + 1) (met ++ [x]) xs else some k := rfl
theorem met_dN {hi : Int} : ∀ {met : List D}, (∀ y ∈ met, isPl y 0 hi = true) → ∃ A : List Nat, met = dN A
  | [], _ => ⟨[], rfl⟩
  | x :: xs, h => by
    obtain ⟨A, rfl⟩ := met_dN (met := xs) fun y hy => h y (List.mem_cons_of_mem _ hy)
    have hx := h x List.mem_cons_self
    cases x with
    | int i =>
      have : 0 ≤ i ∧ i ≤ hi := by simpa [isPl] using hx
      exact ⟨i.toNat :: A, by show _ = D.int (i.toNat : Nat) :: dN A; rw [Int.toNat_of_nonneg this.1]⟩
    | _ => cases hx
theorem memI_N {n : Nat} : ∀ {A : List Nat}, memI (.int (n : Nat)) (dN A) = decide (n ∈ A)
  | [] => rfl
  | a :: A => by
    show (decide (((a : Nat) : Int) = ((n : Nat) : Int)) || memI (.int (n : Nat)) (dN A)) = _
    rw [memI_N, Bool.eq_iff_iff]
    simp
    exact or_congr ⟨fun h => by omega, fun h => by omega⟩ Iff.rfl
theorem in_memI {x : D} {met : List D} {hi : Int} (hx : isPl x 0 hi = true) (hm : ∀ y ∈ met, isPl y 0 hi = true) : inD x (.tup met) = some (.bl (memI x met)) := by
  obtain ⟨A, rfl⟩ := met_dN hm
  obtain ⟨B, hB⟩ := met_dN (met := [x]) fun y hy => by rw [List.mem_singleton.mp hy]; exact hx
  cases B with
  | nil => cases hB
  | cons n B =>
    have : x = .int (n : Nat) := (List.cons.inj hB).1
    subst this
    rw [memI_N]; exact in_tN
theorem in_memL {x : D} {met : List D} {hi : Int} (hx : isPl x 0 hi = true) (hm : ∀ y ∈ met, isPl y 0 hi = true) : inD x (.lst met) = some (.bl (memI x met)) := by
  obtain ⟨A, rfl⟩ := met_dN hm
  obtain ⟨B, hB⟩ := met_dN (met := [x]) fun y hy => by rw [List.mem_singleton.mp hy]; exact hx
  cases B with
  | nil => cases hB
  | cons n B =>
    have : x = .int (n : Nat) := (List.cons.inj hB).1
    subst this
    rw [memI_N]; exact in_lN
theorem w_order_error {os : List D} {n : Nat} (h : Its os) (q : P (errO n os) j) : WF F_p_order_error [.tup os, .int (n : Nat)] j P E := by
  refine a_run rfl ?_
  show f_p_order_error [some (.tup os), some (.int (n : Nat)), none, none] j _ _
  have hL := LN
  have hl := h.1
  simp [f_p_order_error]
  have hq : ∀ r, errO n os = r → P r j := fun r e => e ▸ q
  by_cases c1 : os.length = n
  · refine .inl ⟨by omega, ?_⟩
    subst c1
    have e0 : errO os.length os = match fstB os.length 0 [] os with
      | some k => eT (.int (k : Nat)) "block"
      | none => .non := by
      unfold errO; rw [if_neg (by omega)]
    obtain ⟨j0, ej⟩ : ∃ j0, j0 = j := ⟨_, rfl⟩
    obtain ⟨r0, er⟩ : ∃ r0, fstB os.length 0 [] os = r0 := ⟨_, rfl⟩
    rw [er] at e0
    refine wL_inv (fun k m j' => j' = j0 ∧ (fstB os.length k (os.take k) (os.drop k) = r0 ∧ ∀ x ∈ os.take k, isPl x 0 ((os.length : Int) - 1) = true) ∧ ∃ a b, Is m [some (.tup os), some (.int (os.length : Nat)), a, b]) ⟨ej.symm, ⟨er, by simp⟩, _, _, rfl⟩ ?_ ?_
    · rintro k d m j' hd ⟨rfl, ⟨hf, hall⟩, a, b, rfl⟩
      have hk : k < os.length := by
        have := (List.getElem?_eq_some_iff.mp hd).1
        rwa [enumD_length] at this
      rw [enumD_get (List.getElem?_eq_getElem hk)] at hd
      cases hd
      refine ⟨_, rfl, ?_⟩
      rw [List.drop_eq_getElem_cons hk, fstB_cons] at hf
      simp
      refine w_is_integerG (h.2 _ (List.getElem_mem hk)) ?_
      cases c : isPl os[k] 0 ((os.length : Int) - 1) with
      | true =>
        rw [c] at hf
        have ei := in_memI c hall
        simp [truD, ei]
        have et : os.take k ++ [os[k]] = os.take (k + 1) := by rw [List.take_add_one, List.getElem?_eq_getElem hk]; rfl
        cases c2 : memI os[k] (os.take k) with
        | false =>
          rw [c2] at hf
          refine .inl ⟨rfl, ⟨by rw [← et]; exact hf, fun x hx => ?_⟩, _, _, rfl⟩
          rw [← et] at hx
          rcases List.mem_append.mp hx with hx | hx
          · exact hall x hx
          · rw [List.mem_singleton.mp hx]; exact c
        | true =>
          rw [c2] at hf
          refine .inr ⟨rfl, by omega, ?_⟩
          rw [ej]
          refine hq _ ?_
          rw [e0, ← hf]; rfl
      | false =>
        rw [c] at hf
        simp [truD]
        refine ⟨by omega, ?_⟩
        rw [ej]
        refine hq _ ?_
        rw [e0, ← hf]; rfl
    · rintro m j' ⟨rfl, ⟨hf, hall⟩, a, b, rfl⟩
      rw [enumD_length, List.drop_length] at hf
      have hf : none = r0 := hf
      subst hf
      simp
      rw [ej]
      exact hq _ e0
  · refine .inr ⟨by omega, by omega, hq _ ?_⟩
    unfold errO; rw [if_pos c1]; rfl
/-- what is asked of a value -/
def Vok (v : D) : Prop := (tyD v).isSome = true ∧ ∀ xs, v = .tup xs → Its xs ∧ ∀ ys, .tup ys ∈ xs → Its ys
theorem errL_cases (ls : List D) : errL ls = .non ∨ ∃ a b, errL ls = .tup [a, b] := by
  unfold errL
  split
  · exact .inr ⟨_, _, rfl⟩
  · split
    · exact .inr ⟨_, _, rfl⟩
    · split
      · exact .inr ⟨_, _, rfl⟩
      · exact .inl rfl
theorem wC_l {f : Ev Nat} [MoE f] {wm : Sd} {γ : Gv} {P : List D → Nat → Prop} {xs : List D} (h : D → D) (hs : ∀ x ∈ xs, ∃ m1, γ x wm = some m1 ∧ f m1 j (fun y j2 => y = h x ∧ j2 = j) xNo) (hd : P (xs.map h) j) : WC wm γ tYesD f xs j P := by
  have := wC_map (L := xs) (c := fun d : D => d) h hs hd
  simpa using this
theorem errF_n {x y : D} (h : ¬ ((∃ ls, x = .tup ls) ∧ ∃ os, y = .tup os)) : errF (.tup [x, y]) = eT .non "pair" := by
  unfold errF
  split
  · rename_i h2
    cases h2
    exact absurd ⟨⟨_, rfl⟩, ⟨_, rfl⟩⟩ h
  · rfl
theorem w_exchange_error {v : D} (h : Vok v) (q : P (errF v) j) : WF F_p_exchange_error [v] j P E := by
  refine a_run rfl ?_
  show f_p_exchange_error [some v, none] j _ _
  have hL := LN
  simp [f_p_exchange_error, isi_tuple h.1]
  by_cases c : ∃ xs, v = .tup xs
  · obtain ⟨xs, rfl⟩ := c
    obtain ⟨h1, h2⟩ := h.2 xs rfl
    simp [isTpl_t, truD]
    by_cases c2 : xs.length = 2
    · match xs, c2, h1, h2, q with
      | [x, y], _, h1, h2, q =>
        refine .inl ⟨rfl, by simp; omega, ?_⟩
        have hx := h1.2 x (by simp)
        have hy := h1.2 y (by simp)
        refine wC_l (fun z => .bl (isTpl z)) (fun z hz => ⟨_, rfl, ?_⟩) ?_
        · simp [isi_tuple (h1.2 z hz)]
        have ea : allB [.lst ([x, y].map fun z => D.bl (isTpl z))] = some (.bl (isTpl x && isTpl y)) := by
          show some (D.bl ([isTpl x, isTpl y].all id)) = _
          simp
        simp only [ea, exS]
        by_cases cx : ∃ ls, x = .tup ls
        · obtain ⟨ls, rfl⟩ := cx
          by_cases cy : ∃ os, y = .tup os
          · obtain ⟨os, rfl⟩ := cy
            have i0 : idxD (.tup [.tup ls, .tup os]) (.int 0) = some (.tup ls) := rfl
            have i1 : idxD (.tup [.tup ls, .tup os]) (.int 1) = some (.tup os) := rfl
            simp [isTpl_t, i0, i1]
            refine w_lengths_error (h2 ls (by simp)) ?_
            have eF : errF (.tup [.tup ls, .tup os]) = match errL ls with
              | .non => errO ls.length os
              | d => d := rfl
            rcases errL_cases ls with e | ⟨a, b, e⟩
            · rw [e] at eF ⊢
              simp [i0, i1]
              refine w_order_error (h2 os (by simp)) ?_
              rw [eF] at q
              simpa using q
            · rw [e] at eF ⊢
              rw [eF] at q
              simp
              exact q
          · have e1 := isTpl_n cy
            simp [isTpl_t, e1]
            rw [errF_n fun h => cy h.2] at q
            exact ⟨by omega, q⟩
        · have e1 := isTpl_n cx
          simp [e1]
          rw [errF_n fun h => cx h.1] at q
          exact ⟨by omega, q⟩
    · refine .inr ⟨by omega, by omega, ?_⟩
      have : errF (.tup xs) = eT .non "pair" := by
        unfold errF
        split
        · rename_i h; cases h; simp at c2
        · rfl
      rw [this] at q; exact q
  · have : errF v = eT .non "pair" := by
      unfold errF
      split
      · exact absurd ⟨_, rfl⟩ c
      · rfl
    rw [this] at q
    have e1 := isTpl_n c
    simp [e1]
    exact ⟨by omega, q⟩
theorem errF_cases (v : D) : errF v = .non ∨ ∃ a b, errF v = .tup [a, .str b] := by
  have hO : ∀ n os, errO n os = .non ∨ ∃ a b, errO n os = .tup [a, .str b] := fun n os => by
    unfold errO
    split
    · exact .inr ⟨_, _, rfl⟩
    · split
      · exact .inr ⟨_, _, rfl⟩
      · exact .inl rfl
  have hL : ∀ ls, errL ls = .non ∨ ∃ a b, errL ls = .tup [a, .str b] := fun ls => by
    unfold errL
    split
    · exact .inr ⟨_, _, rfl⟩
    · split
      · exact .inr ⟨_, _, rfl⟩
      · split
        · exact .inr ⟨_, _, rfl⟩
        · exact .inl rfl
  unfold errF
  split
  · rename_i ls os
    rcases hL ls with e | ⟨a, b, e⟩
    · rw [e]; exact hO _ _
    · rw [e]; exact .inr ⟨_, _, rfl⟩
  · exact .inr ⟨_, _, rfl⟩
theorem w_is_exchange {v : D} (h : Vok v) (q : P (.bl (isTpl (errF v) == false)) j) : WF F_p_is_exchange [v] j P E := by
  refine a_run rfl ?_
  show f_p_is_exchange [some v] j _ _
  simp [f_p_is_exchange]
  refine w_exchange_error h ?_
  rcases errF_cases v with e | ⟨a, b, e⟩
  · rw [e] at q ⊢
    exact ⟨_, rfl, q⟩
  · rw [e] at q ⊢
    exact ⟨_, rfl, q⟩
theorem gt_range {n k : Nat} (h : k < n) : gt (List.range n) k = k := by rw [gt_eq (by simpa using h)]; simp
theorem fstF_app {p : D → Bool} {x : D} : ∀ {xs : List D} {k : Nat}, fstF p k (xs ++ [x]) = match fstF p k xs with | some i => some i | none => if p x = true then none else some (k + xs.length)
  | [], k => by
    show (if p x = true then none else some k) = _
    rfl
  | y :: xs, k => by
    rw [List.cons_append, fstF_cons, fstF_cons]
    by_cases c : p y = true
    · rw [if_pos c, if_pos c, fstF_app]
      rw [List.length_cons, show k + (xs.length + 1) = k + 1 + xs.length by omega]
    · rw [if_neg c, if_neg c]
theorem w_lerror {v : D} (h : Vok v) (q : P (errF v) j) : WF F_error [v] j P E := by
  refine a_run rfl ?_
  show f_error [some v, none, none, none, none, none, none] j _ _
  have hL := LN
  have hM := LM
  simp [f_error, isi_tuple h.1]
  by_cases c : ∃ xs, v = .tup xs
  · obtain ⟨xs, rfl⟩ := c
    obtain ⟨h1, h2⟩ := h.2 xs rfl
    simp [isTpl_t, truD]
    by_cases c2 : xs.length = 2
    · match xs, c2, h1, h2, q with
      | [x, y], _, h1, h2, q =>
        refine .inl ⟨rfl, by simp; omega, ?_⟩
        have em : [x, y] = [x, y].map id := by simp
        rw [em]
        refine wC_filter (L := [x, y]) (c := id) (fun z => !isTpl z) (fun _ => .int 1) (fun z hz => ⟨_, rfl, ?_⟩) ?_
        · simp [isi_tuple (h1.2 z hz), truD]
        by_cases cx : (∃ ls, x = .tup ls) ∧ ∃ os, y = .tup os
        · obtain ⟨⟨ls, rfl⟩, ⟨os, rfl⟩⟩ := cx
          have ef : [D.tup ls, D.tup os].filter (fun z => !isTpl z) = [] := rfl
          rw [ef]
          have eF : errF (.tup [.tup ls, .tup os]) = match errL ls with
            | .non => errO ls.length os
            | d => d := rfl
          rw [eF] at q
          have hls := h2 ls (by simp)
          have hos := h2 os (by simp)
          have hl1 := hls.1
          have hl2 := hos.1
          simp
          by_cases c0 : ls = []
          · subst c0
            refine .inr ⟨rfl, by omega, ?_⟩
            exact q
          refine .inl ⟨c0, ?_⟩
          have c00 : ¬ ls.length = 0 := fun h => c0 (List.length_eq_zero_iff.mp h)
          by_cases c6 : 6 < ls.length
          · refine .inr ⟨by omega, by omega, ?_⟩
            have : errL ls = eT .non "count" := by unfold errL; rw [if_pos (by omega)]
            rw [this] at q; exact q
          refine .inl ⟨by omega, by omega, by omega, by rw [rngD_length]; omega, ?_⟩
          have e0 : errL ls = match fstF (fun x => isPl x 1 1000000000000) 0 ls with
            | some k => eT (.int (k : Nat)) "length"
            | none => if 1000000000000 < zS ls then eT .non "places" else .non := by
            unfold errL; rw [if_neg (by omega)]
          have e12 : powD (.int 10) (.int 12) = some (.int 1000000000000) := rfl
          refine wC_inv (fun k acc j' => j' = j ∧ acc.head? = (fstF (fun x => isPl x 1 1000000000000) 0 (ls.take k)).map fun i => .int (i : Nat)) ⟨rfl, rfl⟩ ?_ ?_
          · rintro k d acc j' hd ⟨rfl, hA⟩
            obtain ⟨hk, rfl⟩ := dN_at (O := List.range ls.length) (by rw [← rng_N]; exact hd)
            rw [List.length_range] at hk
            rw [gt_range hk]
            refine ⟨_, rfl, ?_⟩
            have ek : idxD (.tup ls) (.int (k : Nat)) = some ls[k] := idx_t (List.getElem?_eq_getElem hk)
            have et : ls.take (k + 1) = ls.take k ++ [ls[k]] := by rw [List.take_add_one, List.getElem?_eq_getElem hk]; rfl
            simp [ek, e12]
            refine w_is_inG (hls.2 _ (List.getElem_mem hk)) ?_
            rw [et, fstF_app]
            have lt : 0 + (ls.take k).length = k := by rw [List.length_take]; omega
            rw [lt]
            cases hf : fstF (fun x => isPl x 1 1000000000000) 0 (ls.take k) with
            | some i =>
              rw [hf] at hA
              cases acc with
              | nil => cases hA
              | cons y r =>
                have hy : y = .int (i : Nat) := by simpa using hA
                subst hy
                cases c : isPl ls[k] 1 1000000000000 with
                | true => simp [truD]
                | false => simp [truD]
            | none =>
              rw [hf] at hA
              cases acc with
              | cons y r => cases hA
              | nil =>
                cases c : isPl ls[k] 1 1000000000000 with
                | true => simp [truD]
                | false => simp [truD]
          · rintro ys j' ⟨rfl, hA⟩
            rw [rngD_length, List.take_length] at hA
            obtain ⟨r0, er⟩ : ∃ r0, fstF (fun x => isPl x 1 1000000000000) 0 ls = r0 := ⟨_, rfl⟩
            rw [er] at e0 hA
            cases r0 with
            | some k =>
              have e0 : errL ls = eT (.int (k : Nat)) "length" := e0
              rw [e0] at q
              cases ys with
              | nil => cases hA
              | cons y r =>
                have hy : y = .int (k : Nat) := by simpa using hA
                subst hy
                have i0 : idxD (.lst (.int (k : Nat) :: r)) (.int 0) = some (.int (k : Nat)) := idx_l (xs := .int (k : Nat) :: r) (i := 0) rfl
                simp [i0]
                exact ⟨by omega, q⟩
            | none =>
              cases ys with
              | cons y r => cases hA
              | nil =>
                have e0 : errL ls = if 1000000000000 < zS ls then eT .non "places" else .non := e0
                have es := sum_zS (fstF_none er)
                simp [es, e12]
                by_cases c7 : 1000000000000 < zS ls
                · rw [if_pos c7] at e0
                  rw [e0] at q
                  exact .inr ⟨by omega, by omega, q⟩
                rw [if_neg c7] at e0
                rw [e0] at q
                refine .inl ⟨by omega, ?_⟩
                have q : P (errO ls.length os) j' := q
                by_cases c8 : os.length = ls.length
                · rw [← c8] at q
                  have e3 : errO os.length os = match fstB os.length 0 [] os with
                    | some k => eT (.int (k : Nat)) "block"
                    | none => .non := by
                    unfold errO; rw [if_neg (by omega)]
                  obtain ⟨r1, er1⟩ : ∃ r1, fstB os.length 0 [] os = r1 := ⟨_, rfl⟩
                  rw [er1] at e3
                  have hq : ∀ r, errO os.length os = r → P r j' := fun r e => e ▸ q
                  refine .inl ⟨by omega, by omega, by omega, ?_⟩
                  obtain ⟨j0, ej⟩ : ∃ j0, j0 = j' := ⟨_, rfl⟩
                  refine wL_inv (fun k m j' => j' = j0 ∧ (fstB os.length k (os.take k) (os.drop k) = r1 ∧ ∀ x ∈ os.take k, isPl x 0 ((os.length : Int) - 1) = true) ∧ ∃ a b, Is m [some (.tup [.tup ls, .tup os]), some (.tup ls), some (.tup os), some (.lst []), some (.lst (os.take k)), a, b]) ⟨ej.symm, ⟨er1, by simp⟩, _, _, rfl⟩ ?_ ?_
                  · rintro k d m j2 hd ⟨rfl, ⟨hf, hall⟩, a, b, rfl⟩
                    obtain ⟨hk, rfl⟩ := dN_at (O := List.range os.length) (by rw [← rng_N]; exact hd)
                    rw [List.length_range] at hk
                    rw [gt_range hk]
                    refine ⟨_, rfl, ?_⟩
                    have ek : idxD (.tup os) (.int (k : Nat)) = some os[k] := idx_t (List.getElem?_eq_getElem hk)
                    rw [List.drop_eq_getElem_cons hk, fstB_cons] at hf
                    simp [ek]
                    refine w_is_inG (hos.2 _ (List.getElem_mem hk)) ?_
                    have et : os.take k ++ [os[k]] = os.take (k + 1) := by rw [List.take_add_one, List.getElem?_eq_getElem hk]; rfl
                    cases c : isPl os[k] 0 ((os.length : Int) - 1) with
                    | true =>
                      rw [c] at hf
                      have ei := in_memL c hall
                      simp [truD, ei, ek]
                      cases c2 : memI os[k] (os.take k) with
                      | false =>
                        rw [c2] at hf
                        refine .inl ⟨rfl, by omega, ⟨by rw [← et]; exact hf, fun x hx => ?_⟩, _, _, rfl⟩
                        rw [← et] at hx
                        rcases List.mem_append.mp hx with hx | hx
                        · exact hall x hx
                        · rw [List.mem_singleton.mp hx]; exact c
                      | true =>
                        rw [c2] at hf
                        refine .inr ⟨rfl, by omega, ?_⟩
                        rw [ej]
                        refine hq _ ?_
                        rw [e3, ← hf]; rfl
                    | false =>
                      rw [c] at hf
                      simp [truD]
                      refine ⟨by omega, ?_⟩
                      rw [ej]
                      refine hq _ ?_
                      rw [e3, ← hf]; rfl
                  · rintro m j2 ⟨rfl, ⟨hf, hall⟩, a, b, rfl⟩
                    rw [rngD_length, List.drop_length] at hf
                    have hf : none = r1 := hf
                    subst hf
                    simp
                    rw [ej]
                    exact hq _ e3
                · refine .inr ⟨by omega, by omega, ?_⟩
                  have : errO ls.length os = eT .non "order" := by unfold errO; rw [if_pos c8]
                  rw [this] at q; exact q
        · rw [errF_n cx] at q
          have ef : (([x, y].filter (fun z => !isTpl z)).map fun _ => D.int 1).isEmpty = false := by
            by_cases c3 : ∃ ls, x = .tup ls
            · have := isTpl_n fun h => cx ⟨c3, h⟩
              simp [this]
            · have := isTpl_n c3
              simp [this]
          simp only [neL_n, ef, exS]
          simp
          exact ⟨by omega, q⟩
    · refine .inr ⟨by omega, by omega, ?_⟩
      have : errF (.tup xs) = eT .non "pair" := by
        unfold errF
        split
        · rename_i h; cases h; simp at c2
        · rfl
      rw [this] at q; exact q
  · have : errF v = eT .non "pair" := by
      unfold errF
      split
      · exact absurd ⟨_, rfl⟩ c
      · rfl
    rw [this] at q
    have e1 := isTpl_n c
    simp [e1]
    exact ⟨by omega, q⟩
/-- what is asked of a value -/
def RP (k n : Nat) (v : D) : Prop := ∃ p, py v = some p ∧ p.showable = true ∧ p.depth ≤ k ∧ p.shown.length ≤ n
def rpB (v : D) : Bool := match py v with | some p => p.showable && decide (p.depth ≤ 3) && decide (p.shown.length ≤ 200) | none => false
theorem rp_of {v : D} (h : rpB v = true) : RP 3 200 v := by
  unfold rpB at h
  cases hp : py v with
  | none => rw [hp] at h; cases h
  | some p =>
    rw [hp] at h
    simp only [Bool.and_eq_true, decide_eq_true_eq] at h
    exact ⟨p, hp, h.1.1, h.1.2, h.2⟩
theorem rp_int {i : Int} (h : -(10 ^ 59) ≤ i ∧ i ≤ 10 ^ 59) : RP 3 200 (.int i) := by
  obtain ⟨p, a1, a2, a3, a4⟩ := py_ok (.int i) (sm_of h.1 h.2)
  have e1 : dpD (.int i) = 0 := rfl
  have e2 : szD (.int i) = 70 := rfl
  exact ⟨p, a1, a2, by omega, by omega⟩
theorem rp_L {k n : Nat} : ∀ {xs : List D}, (∀ x ∈ xs, RP k n x) → ∃ ps, pyL xs = some ps ∧ PyData.showableAll ps = true ∧ PyData.depthAll ps ≤ k ∧ (PyData.shownAll ps).length = xs.length ∧ ((PyData.shownAll ps).map fun x => x.length).sum ≤ n * xs.length
  | [], _ => ⟨[], rfl, rfl, Nat.zero_le _, rfl, by simp [PyData.shownAll]⟩
  | d :: ds, h => by
    obtain ⟨p, a1, a2, a3, a4⟩ := h d List.mem_cons_self
    obtain ⟨ps, h1, h2, h3, h4, h5⟩ := rp_L (xs := ds) fun x hx => h x (List.mem_cons_of_mem _ hx)
    refine ⟨p :: ps, by unfold pyL; rw [a1, h1], by unfold PyData.showableAll; rw [a2, h2]; rfl, by unfold PyData.depthAll; omega, by unfold PyData.shownAll; simp [h4], ?_⟩
    unfold PyData.shownAll
    simp only [List.map_cons, List.sum_cons, List.length_cons]
    rw [Nat.mul_add]
    omega
theorem rp_tup {k n : Nat} {xs : List D} (h : ∀ x ∈ xs, RP k n x) : RP (k + 1) (n * xs.length + 2 * xs.length + 3) (.tup xs) := by
  obtain ⟨ps, h1, h2, h3, h4, h5⟩ := rp_L h
  have e3 := tupleText_len_le (PyData.shownAll ps)
  refine ⟨.tuple ps, by unfold py; rw [h1], h2, by show PyData.depthAll ps + 1 ≤ k + 1; omega, ?_⟩
  show (tupleText (PyData.shownAll ps)).length ≤ _
  omega
theorem rp_lst {k n : Nat} {xs : List D} (h : ∀ x ∈ xs, RP k n x) : RP (k + 1) (n * xs.length + 2 * xs.length + 3) (.lst xs) := by
  obtain ⟨ps, h1, h2, h3, h4, h5⟩ := rp_L h
  have e3 := listText_len_le (PyData.shownAll ps)
  refine ⟨.list ps, by unfold py; rw [h1], h2, by show PyData.depthAll ps + 1 ≤ k + 1; omega, ?_⟩
  show (listText (PyData.shownAll ps)).length ≤ _
  omega
theorem RP.mono {k n k' n' : Nat} {v : D} (h : RP k n v) (hk : k ≤ k') (hn : n ≤ n') : RP k' n' v := by
  obtain ⟨p, a1, a2, a3, a4⟩ := h
  exact ⟨p, a1, a2, by omega, by omega⟩
theorem RP.rep {k n : Nat} {v : D} (h : RP k n v) (hk : k ≤ 60) (hn : n ≤ LINE) : ∃ x, reprB [v] = some (.str x) := by
  obtain ⟨p, a1, a2, a3, a4⟩ := h
  have e1 : p.depth ≤ 60 := by omega
  have e2 : p.shown.length ≤ LINE := by omega
  have e5 : reprD v = some p.shown := by
    unfold reprD
    rw [a1]
    simp only [a2, e1, e2, decide_true, Bool.and_self, if_true]
  exact ⟨_, by show (match reprD v with | some x => some (D.str x) | none => none) = _; rw [e5]⟩
def cpk (x : Str) : Prop := ∀ c ∈ x.cps.toList, c < 16 ^ 8
theorem cpk_app {a b : Str} (h1 : cpk a) (h2 : cpk b) : cpk (a ++ b) := fun c hc => by
  have e : (a ++ b).cps = a.cps ++ b.cps := rfl
  rw [e, Array.toList_append, List.mem_append] at hc
  rcases hc with hc | hc
  · exact h1 c hc
  · exact h2 c hc
theorem cpk_of (s : String) : cpk (Str.ofString s) := fun c hc => by
  rw [Str.ofString_eq_toList] at hc
  obtain ⟨ch, _, rfl⟩ := List.mem_map.mp (by simpa using hc)
  have h := ch.valid
  have : ch.toNat = ch.val.toNat := rfl
  rw [this]
  rcases h with h | ⟨_, h⟩
  · have : ch.val.toNat < 0xd800 := h
    omega
  · have : ch.val.toNat < 0x110000 := h
    omega
theorem rp_txt {x : Str} {n : Nat} (h : cpk x) (hn : x.length ≤ n) : ∃ p, py (.str x) = some p ∧ p.showable = true ∧ p.depth ≤ 0 ∧ p.shown.length ≤ 10 * n + 2 := by
  refine ⟨.str x, rfl, rfl, Nat.le_refl _, ?_⟩
  have := PySem.StrLaws.reprText_len x h
  show (reprText x).length ≤ _
  omega

theorem cpk_join : ∀ {ts : List Str}, (∀ t ∈ ts, cpk t) → cpk (Str.join ", " ts)
  | [], _ => fun c hc => by simp [Str.join, Str.empty] at hc
  | [x], h => h x (by simp)
  | x :: y :: r, h => by
    show cpk (x ++ ", " ++ Str.join ", " (y :: r))
    exact cpk_app (cpk_app (h x (by simp)) (cpk_of ", ")) (cpk_join fun t ht => h t (List.mem_cons_of_mem _ ht))
theorem cpk_tup {ts : List Str} (h : ∀ t ∈ ts, cpk t) : cpk (tupleText ts) := by
  unfold tupleText
  refine cpk_app (cpk_app (cpk_of "(") (cpk_join h)) ?_
  split
  · exact cpk_of ",)"
  · exact cpk_of ")"
/-- an item of a value -/
def Itm (x : D) : Prop := RP 5 20000 x ∧ (tyD x).isSome = true ∧ ∀ ys, x = .tup ys → Its ys
theorem itm_int {i : Int} (h : -(10 ^ 59) ≤ i ∧ i ≤ 10 ^ 59) : Itm (.int i) := ⟨(rp_int h).mono (by omega) (by omega), rfl, fun ys e => by cases e⟩
def odds : List D := [.non, .bl true, .bl false, .int (-1), .int 0, .int 1, .int 1000000000000, .int 1000000000000000000000000000000000000000, .str "", .str "0", .str "0:1", .str "none", .tup [], .lst [], .dct [], .tup [.int 0], .lst [.int 0], .tup [.bl true], .tup [.int 0, .int 0], .tup [.tup [.int 1], .tup [.int 0]], .dct [(.inr "a", .int 0)], .tup [.non, .int 1], .tup [.tup [.int 1], .lst [.int 0]], .str "put a 0"]
def itsB (xs : List D) : Bool := decide (xs.length ≤ 100) && xs.all fun x => (tyD x).isSome
theorem itsB_ok {xs : List D} (h : itsB xs = true) : Its xs := by
  unfold itsB at h
  rw [Bool.and_eq_true] at h
  exact ⟨by simpa using h.1, fun x hx => List.all_eq_true.mp h.2 x hx⟩
theorem odds_ok {v : D} (h : v ∈ odds) : Itm v ∧ Vok v := by
  have h0 : (odds.all fun v => rpB v && (tyD v).isSome && (match v with | .tup xs => itsB xs && xs.all (fun y => match y with | .tup ys => itsB ys | _ => true) | _ => true)) = true := by decide +kernel
  have := List.all_eq_true.mp h0 v h
  rw [Bool.and_eq_true, Bool.and_eq_true] at this
  obtain ⟨⟨a1, a2⟩, a3⟩ := this
  refine ⟨⟨(rp_of a1).mono (by omega) (by omega), a2, fun ys e => ?_⟩, a2, fun xs e => ?_⟩
  · subst e
    rw [Bool.and_eq_true] at a3
    exact itsB_ok a3.1
  · subst e
    rw [Bool.and_eq_true] at a3
    exact ⟨itsB_ok a3.1, fun ys hy => itsB_ok (List.all_eq_true.mp a3.2 _ hy)⟩
theorem w_odd (hn : j + 1 ≤ NMAX) (q : ∀ v ∈ odds, P v (j + 1)) : WF F_odd [.jar] j P E := by
  refine a_run rfl ?_
  show f_odd [some .jar, none] j _ _
  have hL := LN
  have e12 : powD (.int 10) (.int 12) = some (.int 1000000000000) := rfl
  have e39 : powD (.int 10) (.int 39) = some (.int 1000000000000000000000000000000000000000) := rfl
  simp [f_odd, e12, e39, add_l]
  refine ⟨by omega, by omega, by omega, by omega, by omega, by omega, by omega, by omega, ?_⟩
  refine w_pick (by simp) (by simp) (by omega) fun x hx => ?_
  exact q x hx
/-- what is bent: ints or tuples of ints -/
def Bnt (x : D) : Prop := (∃ n : Nat, x = .int (n : Nat) ∧ n ≤ 10 ^ 13) ∨ ∃ A : List Nat, x = tN A ∧ A.length ≤ 9 ∧ ∀ n ∈ A, n ≤ 10 ^ 13
theorem bnt_itm {x : D} (h : Bnt x) : Itm x := by
  rcases h with ⟨n, rfl, hn⟩ | ⟨A, rfl, hA, hn⟩
  · exact itm_int (by omega)
  · have := rp_tup (k := 3) (n := 200) (xs := dN A) fun x hx => by
      obtain ⟨y, hy, rfl⟩ := List.mem_map.mp hx
      have := hn y hy
      exact rp_int (by omega)
    rw [dN_len] at this
    refine ⟨this.mono (by omega) (by omega), rfl, fun ys e => ?_⟩
    cases e
    refine ⟨by rw [dN_len]; omega, fun x hx => ?_⟩
    obtain ⟨y, hy, rfl⟩ := List.mem_map.mp hx
    rfl
theorem bnt_rp {x : D} (h : Bnt x) : RP 4 1900 x := by
  rcases h with ⟨n, rfl, hn⟩ | ⟨A, rfl, hA, hn⟩
  · exact (rp_int (by omega)).mono (by omega) (by omega)
  · have := rp_tup (k := 3) (n := 200) (xs := dN A) fun x hx => by
      obtain ⟨y, hy, rfl⟩ := List.mem_map.mp hx
      have := hn y hy
      exact rp_int (by omega)
    rw [dN_len] at this
    exact this.mono (by omega) (by omega)
theorem bnt_pln : ∀ {xs : List D}, (∀ x ∈ xs, Bnt x) → plnL xs = true ∧ dpL xs ≤ 1
  | [], _ => ⟨rfl, by decide⟩
  | x :: xs, h => by
    obtain ⟨h1, h2⟩ := bnt_pln (xs := xs) fun y hy => h y (List.mem_cons_of_mem _ hy)
    have hx : pln x = true ∧ dpD x ≤ 1 := by
      rcases h x List.mem_cons_self with ⟨n, rfl, _⟩ | ⟨A, rfl, _⟩
      · exact ⟨rfl, by show (0 : Nat) ≤ 1; omega⟩
      · refine ⟨pln_N, ?_⟩
        show dpL (dN A) + 1 ≤ 1
        simp
    refine ⟨?_, ?_⟩
    · show (pln x && plnL xs) = true
      rw [hx.1, h1]; rfl
    · show max (dpD x) (dpL xs) ≤ 1
      omega
theorem bnt_eq1 {x : D} (h : Bnt x) : ∃ b, eqD x (.int 1) = some (.bl b) := by
  rcases h with ⟨n, rfl, _⟩ | ⟨A, rfl, _⟩
  · exact ⟨_, eq_i⟩
  · have : eqB (tN A) (.int 1) = _ := eqP_pln (d := tN A) (e := .int 1) pln_N rfl (by show dpL (dN A) + 1 ≤ 64; simp) (by decide)
    exact ⟨@decide (tN A = .int 1) (Classical.propDecidable _), by unfold eqD; rw [this]⟩
theorem cpk_dN : ∀ {A : List Nat}, ∃ ps, pyL (dN A) = some ps ∧ ∀ t ∈ PyData.shownAll ps, cpk t
  | [] => ⟨[], rfl, fun t h => by cases h⟩
  | a :: A => by
    obtain ⟨ps, h1, h2⟩ := cpk_dN (A := A)
    refine ⟨.int (a : Nat) :: ps, by show pyL (.int (a : Nat) :: dN A) = _; unfold pyL; rw [h1]; rfl, fun t ht => ?_⟩
    unfold PyData.shownAll at ht
    rcases List.mem_cons.mp ht with rfl | ht
    · exact cpk_of _
    · exact h2 t ht
theorem bnt_str {x : D} (h : Bnt x) : ∃ y, strX [x] = some (.str y) ∧ RP 5 20000 (.str y) := by
  have fin : ∀ p, py x = some p → p.showable = true → p.depth ≤ 4 → p.shown.length ≤ 1900 → cpk p.shown → (∀ z, x ≠ .str z) → ∃ y, strX [x] = some (.str y) ∧ RP 5 20000 (.str y) := fun p h1 h2 h3 h4 h5 h6 => by
    have e1 : reprD x = some p.shown := by
      unfold reprD
      rw [h1]
      have a1 : p.depth ≤ 60 := by omega
      have a2 : p.shown.length ≤ LINE := by rw [LN]; omega
      simp only [h2, a1, a2, decide_true, Bool.and_self, if_true]
    have e2 : strD x = reprD x := by
      cases x <;> first | rfl | exact absurd rfl (h6 _)
    refine ⟨p.shown, by simp [e2, e1], ?_⟩
    obtain ⟨p2, b1, b2, b3, b4⟩ := rp_txt (n := 1900) h5 h4
    exact ⟨p2, b1, b2, by omega, by omega⟩
  rcases h with ⟨n, rfl, hn⟩ | ⟨A, rfl, hA, hn⟩
  · obtain ⟨p, a1, a2, a3, a4⟩ := rp_int (i := (n : Nat)) (by omega)
    have : p = .int (n : Nat) := by cases a1; rfl
    subst this
    exact fin _ a1 a2 (by omega) (by omega) (cpk_of _) fun z e => by cases e
  · obtain ⟨ps, h1, h2⟩ := cpk_dN (A := A)
    obtain ⟨p, a1, a2, a3, a4⟩ := rp_tup (k := 3) (n := 200) (xs := dN A) fun x hx => by
      obtain ⟨y, hy, rfl⟩ := List.mem_map.mp hx
      have := hn y hy
      exact rp_int (by omega)
    rw [dN_len] at a4
    have e : py (tN A) = some (.tuple ps) := by
      show py (.tup (dN A)) = _
      unfold py; rw [h1]
    have : p = .tuple ps := by
      have a1 : py (tN A) = some p := a1
      rw [e] at a1
      exact (Option.some.inj a1).symm
    subst this
    exact fin _ e a2 a3 (by omega) (cpk_tup h2) fun z e => by cases e
def tailB : Sv Nat := (sSeq (sSet 6 (eLst (aCons (eOp addD (eOp addD (eVar 3) (eTup (aCons (eVar 5) aNil))) (eVar 4)) (aCons (eOp addD (eOp addD (eVar 3) (eTup (aCons (eVar 5) aNil))) (eSl sliceD (eVar 4) (pSome (eC (.int 1))) pNone)) (aCons (eOp addD (eVar 3) (eSl sliceD (eVar 4) (pSome (eC (.int 1))) pNone)) (aCons (eOp addD (eOp addD (eVar 3) (eSl sliceD (eVar 4) pNone (pSome (eC (.int 1))))) (eVar 4)) aNil))))))
    (sSeq (sRet (eCall F_pick (aCons (eVar 0) (aCons (eOp addD (eVar 6) (eLst (aCons (eB listB (aCons (eVar 1) aNil)) (aCons (eOp addD (eOp addD (eVar 3) (eUn revD (eSl sliceD (eVar 4) pNone (pSome (eC (.int 2)))))) (eSl sliceD (eVar 4) (pSome (eC (.int 2))) pNone)) aNil)))) aNil))))
    sNil))
def bentB : Sv Nat := (sSeq (sSet 2 (eCall drawF (aCons (eVar 0) (aCons (eOp addD (eB lenB (aCons (eVar 1) aNil)) (eC (.int 1))) aNil))))
    (sSeq (sPr2 3 4 (eSl sliceD (eVar 1) pNone (pSome (eVar 2))) (eSl sliceD (eVar 1) (pSome (eVar 2)) pNone))
    (sSeq (sSet 5 (eCall F_pick (aCons (eVar 0) (aCons (eLst (aCons (eCall F_odd (aCons (eVar 0) aNil)) (aCons (eUn negD (eC (.int 1))) (aCons (eB lenB (aCons (eVar 1) aNil)) (aCons (eC (.int 0)) (aCons (eOp addD (eOp powD (eC (.int 10)) (eC (.int 12))) (eC (.int 1))) aNil)))))) aNil))))
    (sSeq (sIf (tAndD (tBl (eOp neD (eVar 4) (eTup aNil))) (tBl (eOp eqD (eCall drawF (aCons (eVar 0) (aCons (eC (.int 3)) aNil))) (eC (.int 0))))) (sSeq (sSet 5 (eCall F_pick (aCons (eVar 0) (aCons (eLst (aCons (eOp eqD (eOp idxD (eVar 4) (eC (.int 0))) (eC (.int 1))) (aCons (eB strX (aCons (eOp idxD (eVar 4) (eC (.int 0))) aNil)) (aCons (eTup (aCons (eOp idxD (eVar 4) (eC (.int 0))) aNil)) (aCons (eLst (aCons (eOp idxD (eVar 4) (eC (.int 0))) aNil)) aNil))))) aNil))))
    sNil) sNil)
    tailB))))
theorem w_tailB {xs hd tl : List D} {w : D} {a : Option D} {PS : Fl → Sd → Nat → Prop} {E2 : XP Nat} (hh : ∀ x ∈ hd, Bnt x) (ht : ∀ x ∈ tl, Bnt x) (lh : hd.length ≤ 9) (lt : tl.length ≤ 9) (iw : Itm w) (hn : j + 1 ≤ NMAX) (q : ∀ R m, ((∃ ys, R = .tup ys ∧ ys.length ≤ 19 ∧ ∀ y ∈ ys, Itm y) ∨ R = .lst xs) → PS (.ret R) m (j + 1)) : tailB [some .jar, some (.tup xs), a, some (.tup hd), some (.tup tl), some w, none] j PS E2 := by
  have hL := LN
  have c2 : cutD tl none (some 2) = tl.take 2 := cut_take (k := 2)
  have c3 : cutD tl (some 2) none = tl.drop 2 := cut_drop (k := 2)
  simp [tailB, c2, c3]
  have ad : ∀ u v : List D, u.length ≤ 30 → v.length ≤ 30 → addD (.tup u) (.tup v) = some (.tup (u ++ v)) := fun u v h1 h2 => add_t (by omega)
  have l1 : tl.tail.length ≤ 9 := by simp; omega
  have l2 : (tl.take 1).length ≤ 9 := by simp; omega
  have l3 : (tl.take 2).reverse.length ≤ 9 := by simp; omega
  have l4 : (tl.drop 2).length ≤ 9 := by simp; omega
  refine ⟨by omega, _, ad hd [w] (by omega) (by simp), _, ad (hd ++ [w]) tl (by simp; omega) (by omega), by omega, _, ad hd [w] (by omega) (by simp), _, ad (hd ++ [w]) tl.tail (by simp; omega) (by omega), _, ad hd tl.tail (by omega) (by omega), _, ad hd (tl.take 1) (by omega) (by omega), _, ad (hd ++ tl.take 1) tl (by simp; omega) (by omega), by omega, _, ad hd (tl.take 2).reverse (by omega) (by omega), _, ad (hd ++ (tl.take 2).reverse) (tl.drop 2) (by simp; omega) (by omega), by omega, _, add_l (by first | (simp; done) | (simp; omega)), ?_⟩
  refine w_pick (by simp) (by simp) hn fun R hR => ?_
  have iH : ∀ x ∈ hd, Itm x := fun x h => bnt_itm (hh x h)
  have iT : ∀ x ∈ tl, Itm x := fun x h => bnt_itm (ht x h)
  refine q R _ ?_
  simp only [List.cons_append, List.nil_append, List.mem_cons, List.not_mem_nil, or_false] at hR
  rcases hR with rfl | rfl | rfl | rfl | rfl | rfl
  · refine .inl ⟨_, rfl, by simp; omega, fun y hy => ?_⟩
    rcases List.mem_append.mp hy with hy | hy
    · rcases List.mem_append.mp hy with hy | hy
      · exact iH y hy
      · rw [List.mem_singleton.mp hy]; exact iw
    · exact iT y hy
  · refine .inl ⟨_, rfl, by simp; omega, fun y hy => ?_⟩
    rcases List.mem_append.mp hy with hy | hy
    · rcases List.mem_append.mp hy with hy | hy
      · exact iH y hy
      · rw [List.mem_singleton.mp hy]; exact iw
    · exact iT y (List.mem_of_mem_tail hy)
  · refine .inl ⟨_, rfl, by simp; omega, fun y hy => ?_⟩
    rcases List.mem_append.mp hy with hy | hy
    · exact iH y hy
    · exact iT y (List.mem_of_mem_tail hy)
  · refine .inl ⟨_, rfl, by simp; omega, fun y hy => ?_⟩
    rcases List.mem_append.mp hy with hy | hy
    · rcases List.mem_append.mp hy with hy | hy
      · exact iH y hy
      · exact iT y (List.mem_of_mem_take hy)
    · exact iT y hy
  · exact .inr rfl
  · refine .inl ⟨_, rfl, by simp; omega, fun y hy => ?_⟩
    rcases List.mem_append.mp hy with hy | hy
    · rcases List.mem_append.mp hy with hy | hy
      · exact iH y hy
      · exact iT y (List.mem_of_mem_take (List.mem_reverse.mp hy))
    · exact iT y (List.mem_of_mem_drop hy)
theorem w_bent {xs : List D} (hx : ∀ x ∈ xs, Bnt x) (hl : xs.length ≤ 9) (hn : j + 6 ≤ NMAX) (q : ∀ R j', j' ≤ j + 6 → ((∃ ys, R = .tup ys ∧ ys.length ≤ 19 ∧ ∀ y ∈ ys, Itm y) ∨ R = .lst xs) → P R j') : WF F_bent [.jar, .tup xs] j P E := by
  refine a_run rfl ?_
  show bentB [some .jar, some (.tup xs), none, none, none, none, none] j _ _
  have hL := LN
  have e12 : powD (.int 10) (.int 12) = some (.int 1000000000000) := rfl
  simp [bentB, e12]
  refine w_draw (by omega) (by omega) (by omega) fun a ha => ?_
  simp
  have ht : ∀ x ∈ xs.drop a, Bnt x := fun x h => hx x (List.mem_of_mem_drop h)
  have hh : ∀ x ∈ xs.take a, Bnt x := fun x h => hx x (List.mem_of_mem_take h)
  have lt : (xs.drop a).length ≤ 9 := by rw [List.length_drop]; omega
  have lh : (xs.take a).length ≤ 9 := by rw [List.length_take]; omega
  have n0 : neD (.tup (xs.drop a)) (.tup []) = some (.bl (!(xs.drop a).isEmpty)) := by
    obtain ⟨p1, p2⟩ := bnt_pln ht
    rw [neD_t p1 rfl (by omega) (by decide)]
    congr 3
    cases xs.drop a <;> simp
  generalize xs.drop a = tl at *
  generalize xs.take a = hd at *
  refine w_odd (by omega) fun v hv => ?_
  have iv := (odds_ok hv).1
  simp [e12]
  refine ⟨by omega, ?_⟩
  refine w_pick (by simp) (by simp) (by omega) fun w hw => ?_
  have iw : Itm w := by
    simp only [List.mem_cons, List.not_mem_nil, or_false] at hw
    rcases hw with rfl | rfl | rfl | rfl | rfl
    · exact iv
    · exact itm_int (by omega)
    · exact itm_int (by omega)
    · exact itm_int (by omega)
    · exact itm_int (by omega)
  clear hw hv iv
  simp [n0]
  cases tl with
  | nil =>
    refine .inl ⟨rfl, ?_⟩
    exact w_tailB hh (by simp) lh (by simp) iw (by omega) fun R m h => q R _ (by omega) h
  | cons t0 r =>
    refine .inr ⟨by simp, ?_⟩
    refine w_draw (by omega) (by omega) (by omega) fun c hc => ?_
    have b0 := ht t0 (by simp)
    obtain ⟨bb, e1⟩ := bnt_eq1 b0
    obtain ⟨y, e2, e3⟩ := bnt_str b0
    have i0 : idxD (.tup (t0 :: r)) (.int 0) = some t0 := idx_t (xs := t0 :: r) (i := 0) rfl
    have it0 := bnt_itm b0
    rw [str_d] at e2
    simp [i0, e1, e2]
    by_cases c0 : c = 0
    · refine .inr ⟨c0, by omega, by omega, ?_⟩
      refine w_pick (by simp) (by simp) (by omega) fun w2 hw => ?_
      have one : RP 5 20000 (.tup [t0]) := (rp_tup (k := 4) (n := 1900) fun z hz => by rw [List.mem_singleton.mp hz]; exact bnt_rp b0).mono (by omega) (by simp)
      have two : RP 5 20000 (.lst [t0]) := (rp_lst (k := 4) (n := 1900) fun z hz => by rw [List.mem_singleton.mp hz]; exact bnt_rp b0).mono (by omega) (by simp)
      have iw2 : Itm w2 := by
        simp only [List.mem_cons, List.not_mem_nil, or_false] at hw
        rcases hw with rfl | rfl | rfl | rfl
        · cases bb
          · exact (odds_ok (v := .bl false) (by simp [odds])).1
          · exact (odds_ok (v := .bl true) (by simp [odds])).1
        · exact ⟨e3, rfl, fun ys e => by cases e⟩
        · refine ⟨one, rfl, fun ys e => ?_⟩
          cases e
          exact ⟨by simp, fun z hz => by rw [List.mem_singleton.mp hz]; exact it0.2.1⟩
        · exact ⟨two, rfl, fun ys e => by cases e⟩
      exact w_tailB hh ht lh lt iw2 (by omega) fun R m h => q R _ (by omega) h
    · refine .inl ⟨c0, ?_⟩
      exact w_tailB hh ht lh lt iw (by omega) fun R m h => q R _ (by omega) h
/-- what the law looks at -/
def Gd (v : D) : Prop := Vok v ∧ ∃ x, reprB [v] = some (.str x)
theorem gd_of {v : D} {k n : Nat} (h : Vok v) (r : RP k n v) (hk : k ≤ 60) (hn : n ≤ 1000000) : Gd v := ⟨h, r.rep hk (by rw [LN]; exact hn)⟩
theorem vok_n {v : D} (ht : (tyD v).isSome = true) (h : ∀ xs, v ≠ .tup xs) : Vok v := ⟨ht, fun xs e => absurd e (h xs)⟩
theorem gd_tup {xs : List D} (h : ∀ x ∈ xs, Itm x) (hl : xs.length ≤ 19) : Gd (.tup xs) := by
  refine gd_of (k := 6) (n := 380041) ⟨rfl, fun ys e => ?_⟩ ((rp_tup fun x hx => (h x hx).1).mono (by omega) (by omega)) (by omega) (by omega)
  cases e
  exact ⟨⟨by omega, fun x hx => (h x hx).2.1⟩, fun ys hy => (h _ hy).2.2 ys rfl⟩
theorem gd_pair {x y : D} (h1 : RP 6 380041 x) (h2 : RP 6 380041 y) (t1 : (tyD x).isSome = true) (t2 : (tyD y).isSome = true) (i1 : ∀ ys, x = .tup ys → Its ys) (i2 : ∀ ys, y = .tup ys → Its ys) : Gd (.tup [x, y]) := by
  have r : RP 7 (380041 * 2 + 2 * 2 + 3) (.tup [x, y]) := rp_tup (k := 6) (n := 380041) (xs := [x, y]) fun z hz => by
    simp only [List.mem_cons, List.not_mem_nil, or_false] at hz
    rcases hz with rfl | rfl
    · exact h1
    · exact h2
  refine gd_of ⟨rfl, fun ys e => ?_⟩ r (by omega) (by omega)
  cases e
  refine ⟨⟨by simp, fun z hz => ?_⟩, fun ys hy => ?_⟩
  · simp only [List.mem_cons, List.not_mem_nil, or_false] at hz
    rcases hz with rfl | rfl
    · exact t1
    · exact t2
  · simp only [List.mem_cons, List.not_mem_nil, or_false] at hy
    rcases hy with e | e
    · exact i1 ys e.symm
    · exact i2 ys e.symm
/-- a half of a pair -/
def Hlf (x : D) : Prop := RP 6 380041 x ∧ (tyD x).isSome = true ∧ ∀ ys, x = .tup ys → Its ys
theorem gd_hlf {x y : D} (h1 : Hlf x) (h2 : Hlf y) : Gd (.tup [x, y]) := gd_pair h1.1 h2.1 h1.2.1 h2.2.1 h1.2.2 h2.2.2
theorem hlf_itm {x : D} (h : Itm x) : Hlf x := ⟨h.1.mono (by omega) (by omega), h.2.1, h.2.2⟩
theorem hlf_tup {xs : List D} (h : ∀ x ∈ xs, Itm x) (hl : xs.length ≤ 19) : Hlf (.tup xs) := by
  refine ⟨(rp_tup fun x hx => (h x hx).1).mono (by omega) (by omega), rfl, fun ys e => ?_⟩
  cases e
  exact ⟨by omega, fun x hx => (h x hx).2.1⟩
theorem rp_lstI {xs : List D} (h : ∀ x ∈ xs, Itm x) (hl : xs.length ≤ 19) : RP 6 380041 (.lst xs) := (rp_lst fun x hx => (h x hx).1).mono (by omega) (by omega)
theorem hlf_lst {xs : List D} (h : ∀ x ∈ xs, Itm x) (hl : xs.length ≤ 19) : Hlf (.lst xs) := ⟨rp_lstI h hl, rfl, fun ys e => by cases e⟩
theorem gd_lst {xs : List D} (h : ∀ x ∈ xs, Itm x) (hl : xs.length ≤ 19) : Gd (.lst xs) := gd_of (vok_n rfl fun ys e => by cases e) (rp_lstI h hl) (by omega) (by omega)
theorem gd_odd {v : D} (h : v ∈ odds) : Gd v := gd_of (odds_ok h).2 (odds_ok h).1.1 (by omega) (by omega)
theorem itm_ints {xs : List D} (h : ∀ x ∈ xs, ∃ i : Int, x = .int i ∧ -(10 ^ 59) ≤ i ∧ i ≤ 10 ^ 59) (hl : xs.length ≤ 20) : Itm (.tup xs) := by
  refine ⟨(rp_tup (k := 3) (n := 200) fun x hx => ?_).mono (by omega) (by omega), rfl, fun ys e => ?_⟩
  · obtain ⟨i, rfl, h1⟩ := h x hx
    exact rp_int h1
  · cases e
    refine ⟨by omega, fun x hx => ?_⟩
    obtain ⟨i, rfl, _⟩ := h x hx
    rfl
theorem bent_hlf {xs : List D} {R : D} (hx : ∀ x ∈ xs, Bnt x) (hl : xs.length ≤ 9) (h : (∃ ys, R = .tup ys ∧ ys.length ≤ 19 ∧ ∀ y ∈ ys, Itm y) ∨ R = .lst xs) : Hlf R := by
  rcases h with ⟨ys, rfl, h1, h2⟩ | rfl
  · exact hlf_tup h2 h1
  · exact hlf_lst (fun x h => bnt_itm (hx x h)) (by omega)
theorem bent_gd {xs : List D} {R : D} (hx : ∀ x ∈ xs, Bnt x) (hl : xs.length ≤ 9) (h : (∃ ys, R = .tup ys ∧ ys.length ≤ 19 ∧ ∀ y ∈ ys, Itm y) ∨ R = .lst xs) : Gd R := by
  rcases h with ⟨ys, rfl, h1, h2⟩ | rfl
  · exact gd_tup h2 h1
  · exact gd_lst (fun x h => bnt_itm (hx x h)) (by omega)
theorem bnt_dN {A : List Nat} (h : ∀ n ∈ A, n ≤ 10 ^ 13) : ∀ x ∈ dN A, Bnt x := fun x hx => by
  obtain ⟨y, hy, rfl⟩ := List.mem_map.mp hx
  exact .inl ⟨y, rfl, h y hy⟩
theorem w_values (hn : j + 200 ≤ NMAX) (q : ∀ vs j', j' ≤ j + 200 → vs.length ≤ 100 → (∀ v ∈ vs, Gd v) → P (.lst vs) j') : WF F_values [.jar] j P E := by
  refine a_run rfl ?_
  show f_values [some .jar, none, none, none, none, none, none, none] j _ _
  have hL := LN
  have e12 : powD (.int 10) (.int 12) = some (.int 1000000000000) := rfl
  simp [f_values, e12]
  refine w_drawn (j := j) (most := 6) (wide := 1000000000000) (by omega) (by omega) (by omega) (by omega) fun L O j1 hX hO hLx hj1 => ?_
  simp [e12]
  refine w_drawn (j := j1) (most := 9) (wide := 1000000000000) (by omega) (by omega) (by omega) (by omega) fun L' O' j2 hX' hO' hLx' hj2 => ?_
  have le : ∀ {L O : List Nat} {m : Nat}, IsX L O → O.length ≤ m → m ≤ 9 → (∀ x ∈ L, x * O.length ≤ max O.length (max 1000 1000000000000)) → (∀ n ∈ L, n ≤ 10 ^ 13) ∧ (∀ n ∈ O, n ≤ 10 ^ 13) ∧ L.length ≤ 9 ∧ O.length ≤ 9 := fun {L O m} hX hO hm hLx => by
    have hne := hX.ne
    have hl := hX.len
    refine ⟨fun n hn => ?_, fun n hn => ?_, by omega, by omega⟩
    · have h1 := hLx n hn
      have h2 := Nat.le_mul_of_pos_right n hne
      omega
    · have := hX.lt hn
      omega
  obtain ⟨bL, bO, lL, lO⟩ := le hX hO (by omega) hLx
  obtain ⟨bL', bO', lL', lO'⟩ := le hX' hO' (by omega) hLx'
  have hneL : 0 < L.length := by rw [hX.len]; exact hX.ne
  have nL := bnt_dN bL
  have nO := bnt_dN bO
  have ixL : Bnt (tN L) := .inr ⟨L, rfl, lL, bL⟩
  have ixO : Bnt (tN O) := .inr ⟨O, rfl, lO, bO⟩
  have ixL' : Bnt (tN L') := .inr ⟨L', rfl, lL', bL'⟩
  have ixO' : Bnt (tN O') := .inr ⟨O', rfl, lO', bO'⟩
  have et : (dN L).tail = dN (L.drop 1) := by rw [← List.drop_one, dN_drop]
  have es : sumB [.tup (dN (L.drop 1))] = some (.int ((L.drop 1).sum : Nat)) := sum_tN
  have sb : (L.drop 1).sum ≤ 9 * 10 ^ 13 := by
    have : ∀ A : List Nat, (∀ n ∈ A, n ≤ 10 ^ 13) → A.sum ≤ 10 ^ 13 * A.length := fun A => by
      induction A with
      | nil => intro _; simp
      | cons x r ih =>
        intro hx
        have h1 := hx x List.mem_cons_self
        have h2 := ih fun y hy => hx y (List.mem_cons_of_mem _ hy)
        rw [List.sum_cons, List.length_cons]
        omega
    have h1 := this (L.drop 1) fun n hn => bL n (List.mem_of_mem_drop hn)
    have h2 : (L.drop 1).length ≤ 9 := by simp; omega
    omega
  have hM := LM
  have ad : ∀ u v : List D, u.length ≤ 30 → v.length ≤ 30 → addD (.tup u) (.tup v) = some (.tup (u ++ v)) := fun u v h1 h2 => add_t (by omega)
  have al : ∀ u v : List D, u.length ≤ 60 → v.length ≤ 60 → addD (.lst u) (.lst v) = some (.lst (u ++ v)) := fun u v h1 h2 => add_l (by omega)
  have ld : (dN (L.drop 1)).length ≤ 9 := by rw [dN_len]; simp; omega
  simp only [List.drop_one] at et es sb ld
  simp [e12, et, es]
  refine ⟨by omega, _, ad _ _ (by simp) (by omega), by omega, by omega, _, ad _ _ (by simp) (by omega), by omega, by omega, by omega, by omega, by omega, by omega, by omega, _, al _ _ (by simp) (by simp), by omega, by omega, by rw [rngD_length]; omega, ?_⟩
  have iL := bnt_itm ixL
  have iO := bnt_itm ixO
  have iL' := bnt_itm ixL'
  have iO' := bnt_itm ixO'
  have iE : Itm (.tup []) := (odds_ok (v := .tup []) (by simp [odds])).1
  have two : ∀ {a b : D}, Itm a → Itm b → ∀ x ∈ [a, b], Itm x := fun {a b} h1 h2 x hx => by
    simp only [List.mem_cons, List.not_mem_nil, or_false] at hx
    rcases hx with rfl | rfl
    · exact h1
    · exact h2
  have lI : ∀ A : List Nat, A.length ≤ 9 → (∀ n ∈ A, n ≤ 10 ^ 13) → Itm (.lst (dN A)) := fun A h1 h2 => by
    refine ⟨(rp_lst (k := 3) (n := 200) fun x hx => ?_).mono (by omega) (by rw [dN_len]; omega), rfl, fun ys e => by cases e⟩
    obtain ⟨y, hy, rfl⟩ := List.mem_map.mp hx
    have := h2 y hy
    exact rp_int (by omega)
  have rI : ∀ r : Int, -(10 ^ 20) ≤ r → r ≤ 10 ^ 20 → Itm (.tup ([.int r] ++ dN L.tail)) := fun r h1 h2 => by
    refine itm_ints (fun x hx => ?_) (by simp; omega)
    rcases List.mem_append.mp hx with hx | hx
    · exact ⟨r, List.mem_singleton.mp hx, by omega, by omega⟩
    · obtain ⟨y, hy, rfl⟩ := List.mem_map.mp hx
      have := bL y (List.mem_of_mem_tail hy)
      exact ⟨_, rfl, by omega, by omega⟩
  have G1 : ∀ v ∈ [exD L O, exD L' O', D.tup [D.tup ([D.int (1000000000000 - (L.tail.sum : Nat))] ++ dN L.tail), tN O], D.tup [D.tup ([D.int (1000000000000 - (L.tail.sum : Nat) + 1)] ++ dN L.tail), tN O], D.tup [tN L, tN O, D.tup []]] ++ [D.tup [D.tup [], D.tup []], D.tup [tN L], D.lst [tN L, tN O], D.tup [D.lst (dN L), tN O], D.tup [tN L, D.lst (dN O)], tN L], Gd v := fun v hv => by
    simp only [List.cons_append, List.nil_append, List.mem_cons, List.not_mem_nil, or_false] at hv
    rcases hv with rfl | rfl | rfl | rfl | rfl | rfl | rfl | rfl | rfl | rfl | rfl
    · exact gd_tup (two iL iO) (by simp)
    · exact gd_tup (two iL' iO') (by simp)
    · exact gd_tup (two (rI _ (by omega) (by omega)) iO) (by simp)
    · exact gd_tup (two (rI _ (by omega) (by omega)) iO) (by simp)
    · refine gd_tup (fun x hx => ?_) (by simp)
      simp only [List.mem_cons, List.not_mem_nil, or_false] at hx
      rcases hx with rfl | rfl | rfl
      · exact iL
      · exact iO
      · exact iE
    · exact gd_tup (two iE iE) (by simp)
    · exact gd_tup (fun x hx => by rw [List.mem_singleton.mp hx]; exact iL) (by simp)
    · exact gd_lst (two iL iO) (by simp)
    · exact gd_tup (two (lI L lL bL) iO) (by simp)
    · exact gd_tup (two iL (lI O lO bO)) (by simp)
    · exact gd_tup (fun x hx => bnt_itm (nL x hx)) (by simp; omega)
  have L1 : ([exD L O, exD L' O', D.tup [D.tup ([D.int (1000000000000 - (L.tail.sum : Nat))] ++ dN L.tail), tN O], D.tup [D.tup ([D.int (1000000000000 - (L.tail.sum : Nat) + 1)] ++ dN L.tail), tN O], D.tup [tN L, tN O, D.tup []]] ++ [D.tup [D.tup [], D.tup []], D.tup [tN L], D.lst [tN L, tN O], D.tup [D.lst (dN L), tN O], D.tup [tN L, D.lst (dN O)], tN L]).length = 11 := by simp
  generalize [exD L O, exD L' O', D.tup [D.tup ([D.int (1000000000000 - (L.tail.sum : Nat))] ++ dN L.tail), tN O], D.tup [D.tup ([D.int (1000000000000 - (L.tail.sum : Nat) + 1)] ++ dN L.tail), tN O], D.tup [tN L, tN O, D.tup []]] ++ [D.tup [D.tup [], D.tup []], D.tup [tN L], D.lst [tN L, tN O], D.tup [D.lst (dN L), tN O], D.tup [tN L, D.lst (dN O)], tN L] = V1 at *
  have dl : (dN L).length ≤ 9 := by rw [dN_len]; exact lL
  have dO : (dN O).length ≤ 9 := by rw [dN_len]; exact lO
  refine wC_inv (fun k acc j3 => j3 ≤ j2 + 6 * k ∧ acc.length = k ∧ ∀ v ∈ acc, Gd v) ⟨by omega, rfl, by simp⟩ ?_ ?_
  · rintro k d acc j3 hd ⟨hj, hA, hv⟩
    have hk : k < 5 := by
      have := (List.getElem?_eq_some_iff.mp hd).1
      rwa [rngD_length] at this
    refine ⟨_, rfl, ?_⟩
    simp
    refine w_bent nL dl (by omega) fun R j4 hj4 hR => ?_
    simp
    refine ⟨by omega, by omega, by omega, fun v hv2 => ?_⟩
    rcases hv2 with hv2 | rfl
    · exact hv v hv2
    · exact gd_hlf (bent_hlf nL dl hR) (hlf_itm iO)
  rintro ys j3 ⟨hj3, hA, hv⟩
  rw [rngD_length] at hj3 hA
  have app : ∀ {u v : List D}, (∀ x ∈ u, Gd x) → (∀ x ∈ v, Gd x) → ∀ x ∈ u ++ v, Gd x := fun {u v} h1 h2 x hx => by
    rcases List.mem_append.mp hx with hx | hx
    · exact h1 x hx
    · exact h2 x hx
  have one : ∀ {a : D}, Gd a → ∀ x ∈ [a], Gd x := fun {a} h x hx => by rw [List.mem_singleton.mp hx]; exact h
  have G2 := app G1 hv
  have L2 : (V1 ++ ys).length = 16 := by simp; omega
  refine ⟨_, al V1 ys (by omega) (by omega), ?_⟩
  generalize V1 ++ ys = V2 at *
  simp
  refine w_bent nO dO (by omega) fun R1 j4 hj4 hR1 => ?_
  simp
  have G3 := app G2 (one (gd_hlf (hlf_itm iL) (bent_hlf nO dO hR1)))
  have L3 : (V2 ++ [D.tup [tN L, R1]]).length = 17 := by simp; omega
  refine ⟨by omega, by omega, _, al V2 [D.tup [tN L, R1]] (by omega) (by simp), ?_⟩
  generalize V2 ++ [D.tup [tN L, R1]] = V3 at *
  refine ⟨by omega, by omega, by rw [rngD_length]; omega, ?_⟩
  refine wC_inv (fun k acc j5 => j5 ≤ j4 + 6 * k ∧ acc.length = k ∧ ∀ v ∈ acc, Gd v) ⟨by omega, rfl, by simp⟩ ?_ ?_
  · rintro k d acc j5 hd ⟨hj, hA, hv⟩
    have hk : k < 5 := by
      have := (List.getElem?_eq_some_iff.mp hd).1
      rwa [rngD_length] at this
    refine ⟨_, rfl, ?_⟩
    simp
    refine w_bent nO dO (by omega) fun R j6 hj6 hR => ?_
    simp
    refine ⟨by omega, by omega, by omega, fun v hv2 => ?_⟩
    rcases hv2 with hv2 | rfl
    · exact hv v hv2
    · exact gd_hlf (hlf_itm iL) (bent_hlf nO dO hR)
  rintro zs j5 ⟨hj5, hA5, hv5⟩
  rw [rngD_length] at hj5 hA5
  have G4 := app G3 hv5
  have L4 : (V3 ++ zs).length = 22 := by simp; omega
  refine ⟨_, al V3 zs (by omega) (by omega), ?_⟩
  generalize V3 ++ zs = V4 at *
  simp
  have bE : ∀ x ∈ [tN L, tN O], Bnt x := fun x hx => by
    simp only [List.mem_cons, List.not_mem_nil, or_false] at hx
    rcases hx with rfl | rfl
    · exact ixL
    · exact ixO
  refine w_bent bE (by simp) (by omega) fun R2 j6 hj6 hR2 => ?_
  simp
  have G5 := app G4 (one (bent_gd bE (by simp) hR2))
  have L5 : (V4 ++ [R2]).length = 23 := by simp; omega
  refine ⟨by omega, _, al V4 [R2] (by omega) (by simp), ?_⟩
  generalize V4 ++ [R2] = V5 at *
  refine w_bent nL dl (by omega) fun R3 j7 hj7 hR3 => ?_
  simp
  refine w_bent nO dO (by omega) fun R4 j8 hj8 hR4 => ?_
  simp
  refine ⟨by omega, ?_⟩
  refine w_odd (by omega) fun v1 o1 => ?_
  simp
  refine w_odd (by omega) fun v2 o2 => ?_
  refine ⟨by omega, _, al V5 _ (by omega) (by simp), ?_⟩
  refine q _ _ (by omega) (by simp; omega) (app G5 fun v hv => ?_)
  simp only [List.mem_cons, List.not_mem_nil, or_false] at hv
  rcases hv with rfl | rfl | rfl | rfl
  · exact gd_hlf (bent_hlf nL dl hR3) (bent_hlf nO dO hR4)
  · refine gd_tup (two ?_ iE) (by simp)
    exact itm_ints (fun x hx => by
      obtain ⟨y, hy, rfl⟩ := List.mem_map.mp (List.mem_of_mem_take hx)
      have := bL y hy
      exact ⟨_, rfl, by omega, by omega⟩) (by simp; omega)
  · exact gd_odd o1
  · exact gd_odd o2
end
section
variable {L O : List Nat} {j : Nat} {P : D → Nat → Prop} {E : Ex → Nat → Prop}
theorem fstF_lt {p : D → Bool} : ∀ {xs : List D} {k i : Nat}, fstF p k xs = some i → i < k + xs.length
  | [], _, _, h => by cases h
  | x :: xs, k, i, h => by
    rw [fstF_cons] at h
    by_cases c : p x = true
    · rw [if_pos c] at h
      have := fstF_lt h
      rw [List.length_cons]; omega
    · rw [if_neg c] at h
      cases h
      rw [List.length_cons]; omega
theorem fstB_lt {n : Nat} : ∀ {xs : List D} {k i : Nat} {met : List D}, fstB n k met xs = some i → i < k + xs.length
  | [], _, _, _, h => by cases h
  | x :: xs, k, i, met, h => by
    rw [fstB_cons] at h
    by_cases c : (isPl x 0 ((n : Int) - 1) && !memI x met) = true
    · rw [if_pos c] at h
      have := fstB_lt h
      rw [List.length_cons]; omega
    · rw [if_neg c] at h
      cases h
      rw [List.length_cons]; omega
theorem eT_rp {k : D} {s : Str} (hk : RP 3 200 k) (hs : RP 3 200 (.str s)) : RP 4 407 (eT k s) := rp_tup (k := 3) (n := 200) (xs := [k, .str s]) fun x hx => by
  simp only [List.mem_cons, List.not_mem_nil, or_false] at hx
  rcases hx with rfl | rfl
  · exact hk
  · exact hs
theorem errL_rp {ls : List D} (h : Its ls) : RP 4 407 (errL ls) := by
  have hn : RP 3 200 .non := rp_of (by decide +kernel)
  unfold errL
  split
  · exact eT_rp hn (rp_of (by decide +kernel))
  · split
    · rename_i k e
      have := fstF_lt e
      have := h.1
      exact eT_rp (rp_int (by omega)) (rp_of (by decide +kernel))
    · split
      · exact eT_rp hn (rp_of (by decide +kernel))
      · exact hn.mono (by omega) (by omega)
theorem errO_rp {os : List D} {n : Nat} (h : Its os) : RP 4 407 (errO n os) := by
  have hn : RP 3 200 .non := rp_of (by decide +kernel)
  unfold errO
  split
  · exact eT_rp hn (rp_of (by decide +kernel))
  · split
    · rename_i k e
      have := fstB_lt e
      have := h.1
      exact eT_rp (rp_int (by omega)) (rp_of (by decide +kernel))
    · exact hn.mono (by omega) (by omega)
theorem errF_rp {v : D} (h : Vok v) : RP 4 407 (errF v) := by
  have hn : RP 3 200 .non := rp_of (by decide +kernel)
  unfold errF
  split
  · rename_i ls os
    obtain ⟨-, h2⟩ := h.2 _ rfl
    have r1 := errL_rp (h2 ls (by simp))
    split
    · exact errO_rp (h2 os (by simp))
    · exact r1
  · exact eT_rp hn (rp_of (by decide +kernel))
theorem rep_pair {a : D} {b : Bool} (h : RP 4 407 a) : ∃ x, reprB [.lst [a, .bl b]] = some (.str x) := by
  have r : RP 5 (407 * 2 + 2 * 2 + 3) (.lst [a, .bl b]) := rp_lst (k := 4) (n := 407) (xs := [a, .bl b]) fun x hx => by
    simp only [List.mem_cons, List.not_mem_nil, or_false] at hx
    rcases hx with rfl | rfl
    · exact h
    · cases b
      · exact (rp_of (v := .bl false) (by decide +kernel)).mono (by omega) (by omega)
      · exact (rp_of (v := .bl true) (by decide +kernel)).mono (by omega) (by omega)
  exact r.rep (by omega) (by rw [LN]; omega)
theorem isN_err (v : D) : isND (errF v) .non = some (.bl (isTpl (errF v) == false)) := by
  rcases errF_cases v with e | ⟨a, b, e⟩ <;> rw [e] <;> rfl
theorem law_holds : ∀ j : Nat, Few j → f_law (Mp.m0 N_law.length) j (fun l _ _ => l = .ret (.bl true)) xNo := by
  intro j hj
  show f_law [none, some .jar, none, none, none, none] j _ _
  have hL := LN
  have hM := LM
  have hN : NMAX = 1000000000 := rfl
  have hj : j ≤ 1000000 := hj
  simp [f_law]
  refine ⟨by omega, by omega, ?_⟩
  refine wL_inv (fun k m j' => j' ≤ j + 200 * k ∧ ∃ a b c d, Is m [none, some .jar, a, b, c, d]) ⟨by omega, none, none, none, none, rfl⟩ ?_ ?_
  · rintro k dd m j' hd ⟨hj', a, b, c, d, rfl⟩
    have hk : k < 5 := by
      have := (List.getElem?_eq_some_iff.mp hd).1
      rwa [rngD_length] at this
    refine ⟨_, rfl, ?_⟩
    simp
    refine w_values (by omega) fun vs j2 hj2 hv Gv => ?_
    simp
    refine wL_inv (fun n m j3 => j3 = j2 ∧ ∃ x b c d, Is m [none, some .jar, x, b, c, d]) ⟨rfl, _, _, _, _, rfl⟩ ?_ ?_
    · rintro n v m j3 hv2 ⟨rfl, x, b, c, d, rfl⟩
      obtain ⟨ok, y, hy⟩ := Gv v (List.mem_of_getElem? hv2)
      obtain ⟨z, hz⟩ := rep_pair (b := isTpl (errF v) == false) (errF_rp ok)
      refine ⟨_, rfl, ?_⟩
      simp [hy]
      refine w_lerror ok ?_
      simp
      refine w_exchange_error ok ?_
      simp
      refine w_is_exchange ok ?_
      generalize hbb : (isTpl (errF v) == false) = bb at *
      have hi := isN_err v
      rw [hbb] at hi
      simp [hy, hz, hi]
      exact ⟨by omega, _, _, _, _, rfl⟩
    · rintro m j3 ⟨rfl, x, b, c, d, rfl⟩
      simp
      exact ⟨by omega, _, _, _, _, rfl⟩
  · rintro m j' ⟨hj', a, b, c, d, rfl⟩
    simp
end

end Lw
namespace Lw
open PySem PySem.Spec L2 Mp
open PyProof.Rows hiding St

theorem ok_law {P : Program} {w : World} {K : PySem.W.Frag} {mg : Str → Option Value} {base : Heap} {cl xc : Nat → Addr} {xf : Nat → Str} {f fo : Addr} {fd fdo : FuncData} (hB : Blt mg) (hC : Cst mg) (C_error : ∀ R, Cal (jsN K cl xc xf R) P w mg base 2 "_law_error" 1 F_error) (C_values : ∀ R, Cal (jsN K cl xc xf R) P w mg base 5 "_law_values" 1 F_values) (C_p_exchange_error : ∀ R, Cal (jsN K cl xc xf R) P w mg base 3 "exchange_error" 1 F_p_exchange_error) (C_p_is_exchange : ∀ R, Cal (jsN K cl xc xf R) P w mg base 4 "is_exchange" 1 F_p_is_exchange) (F : L2.Fun K "law" "law" st_law f fd)
    (FO : FnG P w K mg base CX0 1 fo fdo ["_law_script"] (spOpenG (jsN K cl xc xf) Few K)) (mo : mg "_law_opened" = some (.ref fo)) (ko : PySem.W.keepIn K (.ref fo) = true) (bo : Binds K fdo ["_law_script"] []) : FnG P w K mg base CX0 6 f fd ["_law_script"] (spLaw K) := by
  refine fnG_sp F sc_law (fun vs H Q E h => ?_) (fun cdv A outer s H vs Q E hr hgd h => ⟨_, pss_cons (ps_set (i := 1) sc_law.nd rfl (by first | exact Or.inl rfl | exact Or.inr rfl) (pe_callG FO (hr.mono (by decide)) hgd rfl mo ko bo .nil pass0 (pa_cons (pv 0) pa_nil) (by decide) rfl rfl))
      (pss_ex (t := fun RB : Addr × Bs => rdS (jsN K cl xc xf RB.1) RB.2 M_law W0 f_law) fun RB => b_law hB hC (C_error _) (C_values _) (C_p_exchange_error _) (C_p_is_exchange _) hr hgd), law_pureG (fun _ => rfl) (by decide) (by decide) law_holds h⟩)
  obtain ⟨_, _, rfl, _⟩ := h
  rfl


theorem all_mk {P : Program} {w : World} {K : PySem.W.Frag} {h : Heap} {mg : Str → Option Value} {fa f0 f1 f2 f3 f4 f5 f6 f7 f8 f9 f10 f11 f12 f13 f14 f15 f16 : Addr} (X : K.In h) (G : h.Ns mainGlobals mg) (hfa : mg "law" = some (.ref fa))
    {od0 od1 od2 od3 od4 od5 od6 od7 od8 od9 od10 od11 od12 od13 od14 od15 od16 an0 an1 an2 an3 an4 an5 an6 an7 an8 an9 an10 an11 an12 an13 an14 an15 an16 : Option Addr} {sl0 sl1 sl2 sl3 sl4 sl5 sl6 sl7 sl8 sl9 sl10 sl11 sl12 sl13 sl14 sl15 sl16 : Array (Option Value)} {oc0 kV0 dc0 pm0 cd0 ct0 oc1 kV1 dc1 pm1 cd1 ct1 oc2 kV2 dc2 pm2 cd2 ct2 oc3 kV3 dc3 pm3 cd3 ct3 oc4 kV4 dc4 pm4 cd4 ct4 oc5 kV5 dc5 pm5 cd5 ct5 oc6 kV6 dc6 pm6 cd6 ct6 oc7 kV7 dc7 pm7 cd7 ct7 oc8 kV8 dc8 pm8 cd8 ct8 oc9 kV9 dc9 pm9 cd9 ct9 oc10 kV10 dc10 pm10 cd10 ct10 oc11 kV11 dc11 pm11 cd11 ct11 oc12 kV12 dc12 pm12 cd12 ct12 oc13 kV13 dc13 pm13 cd13 ct13 oc14 kV14 dc14 pm14 cd14 ct14 oc15 kV15 dc15 pm15 cd15 ct15 oc16 kV16 dc16 pm16 cd16 ct16 : Value} (sm0 : K.lookup sysModules = none)
        (a0 : PySem.W.nsIn K mainGlobals "_law_opened" = some (some (.ref f0))) (l0 : K.lookup f0 = some ⟨oc0, od0, .func (PySem.W.fnOf "_law_opened" "_law_opened" (defArgs st_opened) (defBody st_opened) (defScope st_opened) .none kV0 dc0 pm0 an0 cd0 ct0), sl0⟩) (c0 : PySem.W.codeIn K cd0 "_law_opened" = true) (k0 : PySem.W.keepIn K (.ref f0) = true)
    (a1 : PySem.W.nsIn K mainGlobals "_law_lift" = some (some (.ref f1))) (l1 : K.lookup f1 = some ⟨oc1, od1, .func (PySem.W.fnOf "_law_lift" "_law_lift" (defArgs st_lift) (defBody st_lift) (defScope st_lift) .none kV1 dc1 pm1 an1 cd1 ct1), sl1⟩) (c1 : PySem.W.codeIn K cd1 "_law_lift" = true) (k1 : PySem.W.keepIn K (.ref f1) = true)
    (a2 : PySem.W.nsIn K mainGlobals "is_integer" = some (some (.ref f2))) (l2 : K.lookup f2 = some ⟨oc2, od2, .func (PySem.W.fnOf "is_integer" "is_integer" (defArgs st_p_is_integer) (defBody st_p_is_integer) (defScope st_p_is_integer) .none kV2 dc2 pm2 an2 cd2 ct2), sl2⟩) (c2 : PySem.W.codeIn K cd2 "is_integer" = true) (k2 : PySem.W.keepIn K (.ref f2) = true)
    (a3 : PySem.W.nsIn K mainGlobals "lengths_error" = some (some (.ref f3))) (l3 : K.lookup f3 = some ⟨oc3, od3, .func (PySem.W.fnOf "lengths_error" "lengths_error" (defArgs st_p_lengths_error) (defBody st_p_lengths_error) (defScope st_p_lengths_error) .none kV3 dc3 pm3 an3 cd3 ct3), sl3⟩) (c3 : PySem.W.codeIn K cd3 "lengths_error" = true) (k3 : PySem.W.keepIn K (.ref f3) = true)
    (a4 : PySem.W.nsIn K mainGlobals "order_error" = some (some (.ref f4))) (l4 : K.lookup f4 = some ⟨oc4, od4, .func (PySem.W.fnOf "order_error" "order_error" (defArgs st_p_order_error) (defBody st_p_order_error) (defScope st_p_order_error) .none kV4 dc4 pm4 an4 cd4 ct4), sl4⟩) (c4 : PySem.W.codeIn K cd4 "order_error" = true) (k4 : PySem.W.keepIn K (.ref f4) = true)
    (a5 : PySem.W.nsIn K mainGlobals "exchange_error" = some (some (.ref f5))) (l5 : K.lookup f5 = some ⟨oc5, od5, .func (PySem.W.fnOf "exchange_error" "exchange_error" (defArgs st_p_exchange_error) (defBody st_p_exchange_error) (defScope st_p_exchange_error) .none kV5 dc5 pm5 an5 cd5 ct5), sl5⟩) (c5 : PySem.W.codeIn K cd5 "exchange_error" = true) (k5 : PySem.W.keepIn K (.ref f5) = true)
    (a6 : PySem.W.nsIn K mainGlobals "is_exchange" = some (some (.ref f6))) (l6 : K.lookup f6 = some ⟨oc6, od6, .func (PySem.W.fnOf "is_exchange" "is_exchange" (defArgs st_p_is_exchange) (defBody st_p_is_exchange) (defScope st_p_is_exchange) .none kV6 dc6 pm6 an6 cd6 ct6), sl6⟩) (c6 : PySem.W.codeIn K cd6 "is_exchange" = true) (k6 : PySem.W.keepIn K (.ref f6) = true)
    (a7 : PySem.W.nsIn K mainGlobals "_law_far" = some (some (.ref f7))) (l7 : K.lookup f7 = some ⟨oc7, od7, .func (PySem.W.fnOf "_law_far" "_law_far" (defArgs st_far) (defBody st_far) (defScope st_far) .none kV7 dc7 pm7 an7 cd7 ct7), sl7⟩) (c7 : PySem.W.codeIn K cd7 "_law_far" = true) (k7 : PySem.W.keepIn K (.ref f7) = true)
    (a8 : PySem.W.nsIn K mainGlobals "_law_pick" = some (some (.ref f8))) (l8 : K.lookup f8 = some ⟨oc8, od8, .func (PySem.W.fnOf "_law_pick" "_law_pick" (defArgs st_pick) (defBody st_pick) (defScope st_pick) .none kV8 dc8 pm8 an8 cd8 ct8), sl8⟩) (c8 : PySem.W.codeIn K cd8 "_law_pick" = true) (k8 : PySem.W.keepIn K (.ref f8) = true)
    (a9 : PySem.W.nsIn K mainGlobals "_law_mixed" = some (some (.ref f9))) (l9 : K.lookup f9 = some ⟨oc9, od9, .func (PySem.W.fnOf "_law_mixed" "_law_mixed" (defArgs st_mixed) (defBody st_mixed) (defScope st_mixed) .none kV9 dc9 pm9 an9 cd9 ct9), sl9⟩) (c9 : PySem.W.codeIn K cd9 "_law_mixed" = true) (k9 : PySem.W.keepIn K (.ref f9) = true)
    (a10 : PySem.W.nsIn K mainGlobals "_law_drawn" = some (some (.ref f10))) (l10 : K.lookup f10 = some ⟨oc10, od10, .func (PySem.W.fnOf "_law_drawn" "_law_drawn" (defArgs st_drawn) (defBody st_drawn) (defScope st_drawn) .none kV10 dc10 pm10 an10 cd10 ct10), sl10⟩) (c10 : PySem.W.codeIn K cd10 "_law_drawn" = true) (k10 : PySem.W.keepIn K (.ref f10) = true)
    (a11 : PySem.W.nsIn K mainGlobals "_law_odd" = some (some (.ref f11))) (l11 : K.lookup f11 = some ⟨oc11, od11, .func (PySem.W.fnOf "_law_odd" "_law_odd" (defArgs st_odd) (defBody st_odd) (defScope st_odd) .none kV11 dc11 pm11 an11 cd11 ct11), sl11⟩) (c11 : PySem.W.codeIn K cd11 "_law_odd" = true) (k11 : PySem.W.keepIn K (.ref f11) = true)
    (a12 : PySem.W.nsIn K mainGlobals "_law_bent" = some (some (.ref f12))) (l12 : K.lookup f12 = some ⟨oc12, od12, .func (PySem.W.fnOf "_law_bent" "_law_bent" (defArgs st_bent) (defBody st_bent) (defScope st_bent) .none kV12 dc12 pm12 an12 cd12 ct12), sl12⟩) (c12 : PySem.W.codeIn K cd12 "_law_bent" = true) (k12 : PySem.W.keepIn K (.ref f12) = true)
    (a13 : PySem.W.nsIn K mainGlobals "_law_is_in" = some (some (.ref f13))) (l13 : K.lookup f13 = some ⟨oc13, od13, .func (PySem.W.fnOf "_law_is_in" "_law_is_in" (defArgs st_is_in) (defBody st_is_in) (defScope st_is_in) .none kV13 dc13 pm13 an13 cd13 ct13), sl13⟩) (c13 : PySem.W.codeIn K cd13 "_law_is_in" = true) (k13 : PySem.W.keepIn K (.ref f13) = true)
    (a14 : PySem.W.nsIn K mainGlobals "_law_error" = some (some (.ref f14))) (l14 : K.lookup f14 = some ⟨oc14, od14, .func (PySem.W.fnOf "_law_error" "_law_error" (defArgs st_error) (defBody st_error) (defScope st_error) .none kV14 dc14 pm14 an14 cd14 ct14), sl14⟩) (c14 : PySem.W.codeIn K cd14 "_law_error" = true) (k14 : PySem.W.keepIn K (.ref f14) = true)
    (a15 : PySem.W.nsIn K mainGlobals "_law_values" = some (some (.ref f15))) (l15 : K.lookup f15 = some ⟨oc15, od15, .func (PySem.W.fnOf "_law_values" "_law_values" (defArgs st_values) (defBody st_values) (defScope st_values) .none kV15 dc15 pm15 an15 cd15 ct15), sl15⟩) (c15 : PySem.W.codeIn K cd15 "_law_values" = true) (k15 : PySem.W.keepIn K (.ref f15) = true)
    (a16 : PySem.W.nsIn K mainGlobals "law" = some (some (.ref f16))) (l16 : K.lookup f16 = some ⟨oc16, od16, .func (PySem.W.fnOf "law" "law" (defArgs st_law) (defBody st_law) (defScope st_law) .none kV16 dc16 pm16 an16 cd16 ct16), sl16⟩) (c16 : PySem.W.codeIn K cd16 "law" = true) (k16 : PySem.W.keepIn K (.ref f16) = true)
     
    (n0 : PySem.W.nsIn K mainGlobals "abs" = some none) (n1 : PySem.W.nsIn K mainGlobals "all" = some none) (n2 : PySem.W.nsIn K mainGlobals "bool" = some none) (n3 : PySem.W.nsIn K mainGlobals "enumerate" = some none) (n4 : PySem.W.nsIn K mainGlobals "int" = some none) (n5 : PySem.W.nsIn K mainGlobals "isinstance" = some none) (n6 : PySem.W.nsIn K mainGlobals "len" = some none) (n7 : PySem.W.nsIn K mainGlobals "list" = some none) (n8 : PySem.W.nsIn K mainGlobals "max" = some none) (n9 : PySem.W.nsIn K mainGlobals "range" = some none) (n10 : PySem.W.nsIn K mainGlobals "repr" = some none) (n11 : PySem.W.nsIn K mainGlobals "str" = some none) (n12 : PySem.W.nsIn K mainGlobals "sum" = some none) (n13 : PySem.W.nsIn K mainGlobals "tuple" = some none) {tk0 : Tok} {tk1 : Tok} (q0 : PySem.W.nsIn K mainGlobals "MAX_BLOCKS" = some (some (.int 6 tk0))) (q1 : PySem.W.nsIn K mainGlobals "MAX_PLACES" = some (some (.int 1000000000000 tk1))) : K.lookup sysModules = none ∧
    ∃ fd : FuncData, (∀ (s : Shared) (u : Value), BindsTo s fd ⟨[u], []⟩ [("_law_script", u)]) ∧ ∀ base : Heap, K.In base → base.Ns mainGlobals mg → FnG P w K mg base CX0 6 fa fd ["_law_script"] (spLaw K) := by
  have e := hfa.symm.trans (PySem.W.mg_of X G a16)
  cases e
  have hB : Blt mg := fun x hx => by
    simp only [bnames, List.mem_cons, List.not_mem_nil, or_false] at hx
    rcases hx with rfl | rfl | rfl | rfl | rfl | rfl | rfl | rfl | rfl | rfl | rfl | rfl | rfl | rfl
    · exact PySem.W.mg_none_of X G n0
    · exact PySem.W.mg_none_of X G n1
    · exact PySem.W.mg_none_of X G n2
    · exact PySem.W.mg_none_of X G n3
    · exact PySem.W.mg_none_of X G n4
    · exact PySem.W.mg_none_of X G n5
    · exact PySem.W.mg_none_of X G n6
    · exact PySem.W.mg_none_of X G n7
    · exact PySem.W.mg_none_of X G n8
    · exact PySem.W.mg_none_of X G n9
    · exact PySem.W.mg_none_of X G n10
    · exact PySem.W.mg_none_of X G n11
    · exact PySem.W.mg_none_of X G n12
    · exact PySem.W.mg_none_of X G n13
  have hC : Cst mg := fun x hx => by
    simp only [cnames, List.mem_cons, List.not_mem_nil, or_false] at hx; rcases hx with rfl | rfl
    · exact ⟨_, PySem.W.mg_of X G q0⟩
    · exact ⟨_, PySem.W.mg_of X G q1⟩
  have F0 := fun_mk (st := st_opened) l0 c0 k0
  have b0 := F0.binds (ps := ["_law_script"]) fun _ _ _ _ _ _ us hl => match us, hl with | [_], _ => rfl
  have m0 := PySem.W.mg_of X G a0
  have F1 := fun_mk (st := st_lift) l1 c1 k1
  have b1 := F1.binds (ps := ["_law_jar", "_law_many"]) fun _ _ _ _ _ _ us hl => match us, hl with | [_, _], _ => rfl
  have m1 := PySem.W.mg_of X G a1
  have F2 := fun_mk (st := st_p_is_integer) l2 c2 k2
  have b2 := F2.binds (ps := ["value", "low", "high"]) fun _ _ _ _ _ _ us hl => match us, hl with | [_, _, _], _ => rfl
  have m2 := PySem.W.mg_of X G a2
  have F3 := fun_mk (st := st_p_lengths_error) l3 c3 k3
  have b3 := F3.binds (ps := ["lengths"]) fun _ _ _ _ _ _ us hl => match us, hl with | [_], _ => rfl
  have m3 := PySem.W.mg_of X G a3
  have F4 := fun_mk (st := st_p_order_error) l4 c4 k4
  have b4 := F4.binds (ps := ["order", "many"]) fun _ _ _ _ _ _ us hl => match us, hl with | [_, _], _ => rfl
  have m4 := PySem.W.mg_of X G a4
  have F5 := fun_mk (st := st_p_exchange_error) l5 c5 k5
  have b5 := F5.binds (ps := ["value"]) fun _ _ _ _ _ _ us hl => match us, hl with | [_], _ => rfl
  have m5 := PySem.W.mg_of X G a5
  have F6 := fun_mk (st := st_p_is_exchange) l6 c6 k6
  have b6 := F6.binds (ps := ["value"]) fun _ _ _ _ _ _ us hl => match us, hl with | [_], _ => rfl
  have m6 := PySem.W.mg_of X G a6
  have F7 := fun_mk (st := st_far) l7 c7 k7
  have b7 := F7.binds (ps := ["_law_jar", "_law_many"]) fun _ _ _ _ _ _ us hl => match us, hl with | [_, _], _ => rfl
  have m7 := PySem.W.mg_of X G a7
  have F8 := fun_mk (st := st_pick) l8 c8 k8
  have b8 := F8.binds (ps := ["_law_jar", "_law_items"]) fun _ _ _ _ _ _ us hl => match us, hl with | [_, _], _ => rfl
  have m8 := PySem.W.mg_of X G a8
  have F9 := fun_mk (st := st_mixed) l9 c9 k9
  have b9 := F9.binds (ps := ["_law_jar", "_law_items"]) fun _ _ _ _ _ _ us hl => match us, hl with | [_, _], _ => rfl
  have m9 := PySem.W.mg_of X G a9
  have F10 := fun_mk (st := st_drawn) l10 c10 k10
  have b10 := F10.binds (ps := ["_law_jar", "_law_most", "_law_wide"]) fun _ _ _ _ _ _ us hl => match us, hl with | [_, _, _], _ => rfl
  have m10 := PySem.W.mg_of X G a10
  have F11 := fun_mk (st := st_odd) l11 c11 k11
  have b11 := F11.binds (ps := ["_law_jar"]) fun _ _ _ _ _ _ us hl => match us, hl with | [_], _ => rfl
  have m11 := PySem.W.mg_of X G a11
  have F12 := fun_mk (st := st_bent) l12 c12 k12
  have b12 := F12.binds (ps := ["_law_jar", "_law_value"]) fun _ _ _ _ _ _ us hl => match us, hl with | [_, _], _ => rfl
  have m12 := PySem.W.mg_of X G a12
  have F13 := fun_mk (st := st_is_in) l13 c13 k13
  have b13 := F13.binds (ps := ["_law_value", "_law_low", "_law_high"]) fun _ _ _ _ _ _ us hl => match us, hl with | [_, _, _], _ => rfl
  have m13 := PySem.W.mg_of X G a13
  have F14 := fun_mk (st := st_error) l14 c14 k14
  have b14 := F14.binds (ps := ["_law_value"]) fun _ _ _ _ _ _ us hl => match us, hl with | [_], _ => rfl
  have m14 := PySem.W.mg_of X G a14
  have F15 := fun_mk (st := st_values) l15 c15 k15
  have b15 := F15.binds (ps := ["_law_jar"]) fun _ _ _ _ _ _ us hl => match us, hl with | [_], _ => rfl
  have m15 := PySem.W.mg_of X G a15
  have F16 := fun_mk (st := st_law) l16 c16 k16
  have b16 := F16.binds (ps := ["_law_script"]) fun _ _ _ _ _ _ us hl => match us, hl with | [_], _ => rfl
  have m16 := PySem.W.mg_of X G a16
  refine ⟨sm0, PySem.W.fnOf "law" "law" (defArgs st_law) (defBody st_law) (defScope st_law) .none kV16 dc16 pm16 an16 cd16 ct16, fun s v => .of_eq rfl, fun base _ _ => ?_⟩
  have C_lift : ∀ R, Cal (jsN K (fun _ => 0) (fun _ => 0) (fun _ => "") R) P w mg base 1 "_law_lift" 2 drawF := fun R => ok_lift hB   F1 m1 b1
  have C_p_is_integer : ∀ R, Cal (jsN K (fun _ => 0) (fun _ => 0) (fun _ => "") R) P w mg base 1 "is_integer" 3 F_p_is_integer := fun R => ok_p_is_integer hB hC  F2 m2 b2
  have C_p_lengths_error : ∀ R, Cal (jsN K (fun _ => 0) (fun _ => 0) (fun _ => "") R) P w mg base 2 "lengths_error" 1 F_p_lengths_error := fun R => ok_p_lengths_error hB hC (C_p_is_integer R) F3 m3 b3
  have C_p_order_error : ∀ R, Cal (jsN K (fun _ => 0) (fun _ => 0) (fun _ => "") R) P w mg base 2 "order_error" 2 F_p_order_error := fun R => ok_p_order_error hB hC (C_p_is_integer R) F4 m4 b4
  have C_p_exchange_error : ∀ R, Cal (jsN K (fun _ => 0) (fun _ => 0) (fun _ => "") R) P w mg base 3 "exchange_error" 1 F_p_exchange_error := fun R => ok_p_exchange_error hB hC (C_p_lengths_error R) (C_p_order_error R) F5 m5 b5
  have C_p_is_exchange : ∀ R, Cal (jsN K (fun _ => 0) (fun _ => 0) (fun _ => "") R) P w mg base 4 "is_exchange" 1 F_p_is_exchange := fun R => ok_p_is_exchange hB hC (C_p_exchange_error R) F6 m6 b6
  have C_far : ∀ R, Cal (jsN K (fun _ => 0) (fun _ => 0) (fun _ => "") R) P w mg base 2 "_law_far" 2 F_far := fun R => ok_far hB hC (C_lift R) F7 m7 b7
  have C_pick : ∀ R, Cal (jsN K (fun _ => 0) (fun _ => 0) (fun _ => "") R) P w mg base 2 "_law_pick" 2 F_pick := fun R => ok_pick hB hC (C_lift R) F8 m8 b8
  have C_mixed : ∀ R, Cal (jsN K (fun _ => 0) (fun _ => 0) (fun _ => "") R) P w mg base 2 "_law_mixed" 2 F_mixed := fun R => ok_mixed hB hC (C_lift R) F9 m9 b9
  have C_drawn : ∀ R, Cal (jsN K (fun _ => 0) (fun _ => 0) (fun _ => "") R) P w mg base 3 "_law_drawn" 3 F_drawn := fun R => ok_drawn hB hC (C_far R) (C_lift R) (C_mixed R) (C_pick R) F10 m10 b10
  have C_odd : ∀ R, Cal (jsN K (fun _ => 0) (fun _ => 0) (fun _ => "") R) P w mg base 3 "_law_odd" 1 F_odd := fun R => ok_odd hB hC (C_pick R) F11 m11 b11
  have C_bent : ∀ R, Cal (jsN K (fun _ => 0) (fun _ => 0) (fun _ => "") R) P w mg base 4 "_law_bent" 2 F_bent := fun R => ok_bent hB hC (C_lift R) (C_odd R) (C_pick R) F12 m12 b12
  have C_is_in : ∀ R, Cal (jsN K (fun _ => 0) (fun _ => 0) (fun _ => "") R) P w mg base 1 "_law_is_in" 3 F_is_in := fun R => ok_is_in hB hC  F13 m13 b13
  have C_error : ∀ R, Cal (jsN K (fun _ => 0) (fun _ => 0) (fun _ => "") R) P w mg base 2 "_law_error" 1 F_error := fun R => ok_error hB hC (C_is_in R) F14 m14 b14
  have C_values : ∀ R, Cal (jsN K (fun _ => 0) (fun _ => 0) (fun _ => "") R) P w mg base 5 "_law_values" 1 F_values := fun R => ok_values hB hC (C_bent R) (C_drawn R) (C_odd R) F15 m15 b15
  exact ok_law hB hC C_error C_values C_p_exchange_error C_p_is_exchange F16 ((ok_opened hB F0).imp fun _ _ _ _ h => open_lift h) m0 k0 b0
end Lw
open PySem PySem.W PyProof.Rows
set_option maxRecDepth 100000 in
set_option maxHeartbeats 0 in
theorem PySem.Challenge.cw_blockturns_k02_exchanges_judged_holds : PySem.Challenge.rw_blockturns_k02_exchanges_judged.Holds := by
  w_on; o_law; k_head; (case hw => w_witness2)
  k_fill
  refine Mp.walk_ofG (l := PySem.Challenge.rw_blockturns_k02_exchanges_judged) (k := 6) (x := "_law_script") rfl rfl ⟨rfl, by decide, by decide⟩ rfl (fun w h Y => PySem.W.kIn_of Y) ?F
  case F =>
    intro w mg fa h KX G hmg
    refine' Lw.all_mk KX G hmg ?sm0 ?a0 ?l0 ?c0 ?k0 ?a1 ?l1 ?c1 ?k1 ?a2 ?l2 ?c2 ?k2 ?a3 ?l3 ?c3 ?k3 ?a4 ?l4 ?c4 ?k4 ?a5 ?l5 ?c5 ?k5 ?a6 ?l6 ?c6 ?k6 ?a7 ?l7 ?c7 ?k7 ?a8 ?l8 ?c8 ?k8 ?a9 ?l9 ?c9 ?k9 ?a10 ?l10 ?c10 ?k10 ?a11 ?l11 ?c11 ?k11 ?a12 ?l12 ?c12 ?k12 ?a13 ?l13 ?c13 ?k13 ?a14 ?l14 ?c14 ?k14 ?a15 ?l15 ?c15 ?k15 ?a16 ?l16 ?c16 ?k16  ?n0 ?n1 ?n2 ?n3 ?n4 ?n5 ?n6 ?n7 ?n8 ?n9 ?n10 ?n11 ?n12 ?n13 ?q0 ?q1
    (case sm0 => first | k_is | rfl)
    (case a0 => k_is); (case l0 => k_is); (case c0 => k_is); (case k0 => k_is)
    (case a1 => k_is); (case l1 => k_is); (case c1 => k_is); (case k1 => k_is)
    (case a2 => k_is); (case l2 => k_is); (case c2 => k_is); (case k2 => k_is)
    (case a3 => k_is); (case l3 => k_is); (case c3 => k_is); (case k3 => k_is)
    (case a4 => k_is); (case l4 => k_is); (case c4 => k_is); (case k4 => k_is)
    (case a5 => k_is); (case l5 => k_is); (case c5 => k_is); (case k5 => k_is)
    (case a6 => k_is); (case l6 => k_is); (case c6 => k_is); (case k6 => k_is)
    (case a7 => k_is); (case l7 => k_is); (case c7 => k_is); (case k7 => k_is)
    (case a8 => k_is); (case l8 => k_is); (case c8 => k_is); (case k8 => k_is)
    (case a9 => k_is); (case l9 => k_is); (case c9 => k_is); (case k9 => k_is)
    (case a10 => k_is); (case l10 => k_is); (case c10 => k_is); (case k10 => k_is)
    (case a11 => k_is); (case l11 => k_is); (case c11 => k_is); (case k11 => k_is)
    (case a12 => k_is); (case l12 => k_is); (case c12 => k_is); (case k12 => k_is)
    (case a13 => k_is); (case l13 => k_is); (case c13 => k_is); (case k13 => k_is)
    (case a14 => k_is); (case l14 => k_is); (case c14 => k_is); (case k14 => k_is)
    (case a15 => k_is); (case l15 => k_is); (case c15 => k_is); (case k15 => k_is)
    (case a16 => k_is); (case l16 => k_is); (case c16 => k_is); (case k16 => k_is)

    (case n0 => k_is)
    (case n1 => k_is)
    (case n2 => k_is)
    (case n3 => k_is)
    (case n4 => k_is)
    (case n5 => k_is)
    (case n6 => k_is)
    (case n7 => k_is)
    (case n8 => k_is)
    (case n9 => k_is)
    (case n10 => k_is)
    (case n11 => k_is)
    (case n12 => k_is)
    (case n13 => k_is)
    (case q0 => k_is)
    (case q1 => k_is)
