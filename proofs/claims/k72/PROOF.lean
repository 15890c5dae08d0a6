import PyProof.Rows.All
import Wide.All
import OpenK.AllK
import Wide.FinOn
import PyProof.ReprRoads
import HandS.ForMost
import HandS.Walk
import HandS.Flow
import HandS.Style
import HandS.Wide
import HandS.Zip
import HandS.TupAny
import HandS.TupMul
import HandS.Conv
import HandS.SortInts
import HandS.IsInst
import HandS.Strs
import HandS.Exc
import HandS.ExcOwn
import HandS.EndBits
import HandS.Words
import HandS.Deep
import HandS.NoneIn
import PyProof.ReprLen
import HandS.Star
import HandS.SetFor
import PyProof.Rows.SortShellAny
import HandS.ExcInit
import HandS.ExcField
import HandS.ExcIs
import KE.KExcIs
import PyProof.ZipIter
import KE.GoesMore
import KE.GoesEnum
import KE.GoesZip
import HandS.DictTup
import HandS.SortOrd
import HandS.More
import PyProof.EqKinds
import PyProof.EqAt
import PyProof.StrLawsRepr
import PyProof.FactsAll.tuple_2
import HandS.WideBits
import KE.KDictSum
import KE.LtData
import KE.SortData
import HandS.Text
import HandS.FStr
import HandS.MapJoin
import PyProof.StrOps2
import PySem.Challenge.RW_blockturns_k72_other_texts_refused
set_option Elab.async false
set_option linter.all false
set_option maxRecDepth 100000
set_option maxHeartbeats 8000000
set_option autoImplicit false
set_option synthInstance.maxHeartbeats 2000000
set_option synthInstance.maxSize 4000
/-! Mp0: rules of the hand layer's own kind that it lacks: tuples whose object is known, sum and index of a tuple, t[::-1]. -/
namespace HT
open PySem PySem.Spec PyProof.Rows L2
section
variable {prog : Program} {w : World} {A : Around} {E : Value → Shared → Prop} {s : Shared}
theorem sliceApplied_rev {sl : Addr} {vl vu vs : Value} {n : Nat} {Q : Int × Int × Nat → Shared → Prop} (hs : s.heap.IsSliceOf sl vl vu vs) (pl : IsPart vl none) (pu : IsPart vu none) (ps : IsPart vs (some (-1)))
    (h : Q ((n : Int) - 1, -1, n) s) : wpAny (model prog w) A (Builtin.Slice.sliceApplied (.ref sl) (pure (n : Int))) Q E s := by
  obtain ⟨os, hos, hcs, hds⟩ := id hs
  unfold Builtin.Slice.sliceApplied Builtin.Slice.sliceFields
  refine wpAny_bind (wpAny_bind (wpAny_field hos hds (x := vl) rfl (wpAny_bind (wpAny_field hos hds (x := vu) rfl (wpAny_bind (wpAny_field hos hds (x := vs) rfl (wpAny_pure ?_)))))))
  refine wpAny_bind (slicePart_ ps ?_)
  show wpAny _ _ (if ((-1 : Int) == 0) = true then _ else _) _ _ s
  rw [if_neg (by decide)]
  refine wpAny_bind (slicePart_ pl (wpAny_bind (slicePart_ pu (wpAny_bind (wpAny_pure ?_)))))
  have e : Builtin.Slice.sliceAdjust none none (-1) (n : Int) = ((n : Int) - 1, -1) := rfl
  show wpAny _ _ (match Builtin.Slice.sliceAdjust none none (-1) (n : Int) with | (lo, hi) => pure (lo, (-1 : Int), Builtin.Slice.slicePlaces lo hi (-1))) _ _ s
  rw [e]
  have e2 : Builtin.Slice.slicePlaces ((n : Int) - 1) (-1) (-1) = n := by
    unfold Builtin.Slice.slicePlaces
    have h1 : ¬ ((-1 : Int) > 0) := by omega
    simp only [h1, if_false]
    split <;> simp <;> omega
  show wpAny _ _ (pure ((n : Int) - 1, (-1 : Int), Builtin.Slice.slicePlaces ((n : Int) - 1) (-1) (-1))) _ _ s
  rw [e2]
  exact wpAny_pure h
theorem pick_rev (xs : Array Value) : ((List.range xs.size).filterMap fun (m : Nat) => xs[(((xs.size : Int) - 1) + (m : Int) * (-1)).toNat]?).toArray = xs.toList.reverse.toArray := by
  congr 1
  apply List.ext_getElem?
  intro i
  obtain ⟨l⟩ := xs
  simp only [List.size_toArray, List.getElem?_toArray]
  have key : (List.range l.length).filterMap (fun (m : Nat) => l[(((l.length : Int) - 1) + (m : Int) * (-1)).toNat]?) = l.reverse := by
    have e : (List.range l.length).filterMap (fun (m : Nat) => l[(((l.length : Int) - 1) + (m : Int) * (-1)).toNat]?) = (List.range l.length).filterMap (fun (m : Nat) => l.reverse[m]?) := by
      have hcg : ∀ (q : List Nat) (f g : Nat → Option Value), (∀ m ∈ q, f m = g m) → q.filterMap f = q.filterMap g := by
        intro q f g
        induction q with
        | nil => intro _; rfl
        | cons x q ih =>
          intro h
          rw [List.filterMap_cons, List.filterMap_cons, h x List.mem_cons_self, ih fun m hm => h m (List.mem_cons_of_mem _ hm)]
      refine hcg _ _ _ fun m hm => ?_
      have hm := List.mem_range.mp hm
      rw [List.getElem?_reverse hm]
      congr 1
      omega
    rw [e]
    have h2 : ∀ (r : List Value), (List.range r.length).filterMap (fun (m : Nat) => r[m]?) = r := by
      intro r
      induction r with
      | nil => rfl
      | cons x r ih =>
        rw [List.length_cons, List.range_succ_eq_map, List.filterMap_cons]
        simp only [List.getElem?_cons_zero, List.filterMap_map]
        rw [show ((fun (m : Nat) => (x :: r)[m]?) ∘ Nat.succ) = fun (m : Nat) => r[m]? from rfl, ih]
    have := h2 l.reverse
    rw [List.length_reverse] at this
    exact this
  rw [key]
theorem getItem_tuple_rev {t sl : Addr} {items : Array Value} {vl vu vs : Value} {Q : Value → Shared → Prop} (ht : IsTup s.heap t items) (hs : s.heap.IsSliceOf sl vl vu vs) (pl : IsPart vl none) (pu : IsPart vu none) (ps : IsPart vs (some (-1)))
    (h : Q (.ref s.heap.objs.size) { s with heap := s.heap.push { cls := .type "tuple", data := .seq items.toList.reverse.toArray } })
    (hsz : items.size ≤ sizeLine) : wpAny (model prog w) A (getItem (.ref t) (.ref sl)) Q E s := by
  have htake : sizeOk (.seq items.toList.reverse.toArray) := by
    show items.toList.reverse.toArray.size ≤ sizeLine
    rw [List.size_toArray, List.length_reverse, Array.length_toList]
    exact hsz
  obtain ⟨os, hos, hcs, hds⟩ := id hs
  have hTs : s.TypeIs (.ref sl) "slice" := ⟨os, hos, hcs⟩
  unfold getItem
  try with_reducible refine wpAny_holding ?_
  first | refine wpAny_bind (wpAny_pure ?_) | skip
  refine wpAny_bind (wpAny_sequenceKey ht.typeIs (by decide) ?_)
  refine wpAny_bind (wpAny_callSpecial?_slot (name := Str.ofString "__getitem__") ht.typeIs PyProof.Rows.slot_tuple_getitem
    (wpAny_call_entry PyProof.Rows.slot_tuple_getitem ht.typeIs entry_tuple_getitem ?_ (args_tuple_getitem _ _)))
  show wpAny _ _ (Builtin.Tuple.tupleItemsOf (.ref t) >>= _) _ _ s
  refine wpAny_bind (tupleItemsOf_ ht ?_)
  refine wpAny_bind (wpAny_typeOf hTs ?_)
  rw [if_pos (by decide)]
  refine wpAny_bind (sliceApplied_rev hs pl pu ps ?_)
  have hno : ¬ ((((items.size : Int) - 1) == 0 && (-1 : Int) == 1 && items.size == items.size) = true) := by
    intro q
    rw [Bool.and_eq_true, Bool.and_eq_true] at q
    exact absurd q.1.2 (by decide)
  show wpAny _ _ (if (((items.size : Int) - 1) == 0 && (-1 : Int) == 1 && items.size == items.size) = true then _ else _) _ _ s
  rw [if_neg hno, pick_rev]
  first
    | exact wpAny_bind (m := Builtin.Tuple.tupleExact _) (wpAny_newObj_type (wpAny_pure ⟨_, rfl, wpAny_pure h⟩) htake)
    | exact wpAny_bind (m := Builtin.Tuple.tupleExact _) (wpAny_newObj_type (wpAny_bind (wpAny_pure (wpAny_pure ⟨_, rfl, wpAny_pure h⟩))) htake)
    | exact wpAny_bind (wpAny_bind (m := Builtin.Tuple.tupleExact _) (wpAny_newObj_type (wpAny_pure (wpAny_pure ⟨_, rfl, wpAny_pure h⟩)) htake))
    | exact wpAny_bind (wpAny_bind (m := Builtin.Tuple.tupleExact _) (wpAny_newObj_type (wpAny_pure ⟨_, rfl, wpAny_pure h⟩) htake))
end
end HT
namespace Mp
open PySem PySem.Spec PyProof.Rows L2
/-- a tuple that is read, known to have no dict -/
def SqF (K : PySem.W.Frag) (F : Hp) (a : Addr) (vs : List V) : Prop :=
  (∃ o : Obj, F a = some (.frz o (.tup vs)) ∧ o.dict = none) ∨
    ∃ (o : Obj) (its : Array Value) (n : Nat), K.lookup a = some o ∧ o.cls = .type "tuple" ∧ o.dict = none ∧ o.data = .seq its n ∧ its.size ≤ sizeLine ∧ Vals vs its.toList
theorem SqF.t {K : PySem.W.Frag} {F : Hp} {a : Addr} {vs : List V} (h : SqF K F a vs) : SqT K F a vs := by
  rcases h with ⟨o, h, _⟩ | ⟨o, its, n, h1, h2, _, h3, h4, h5⟩
  · exact .inl (.inr ⟨o, h⟩)
  · exact .inr ⟨o, its, n, h1, h2, h3, h4, h5⟩
theorem SqF.same {K : PySem.W.Frag} {F G : Hp} (e : Same F G) {a : Addr} {vs : List V} (h : SqF K F a vs) : SqF K G a vs := by
  rcases h with ⟨o, h, d⟩ | h
  · exact .inl ⟨o, e _ _ h, d⟩
  · exact .inr h
section
variable {X : Cx} {es : List Expr} {e a : Expr} {t : TA} {pos : Pos}
/-- what a new tuple asks -/
abbrev NewT (H : Hp) (xs : List V) (Q : VK) : Prop := ∀ (p : Addr) (o : Obj), H p = none → o.dict = none → Q (.ref p) (upd H p (.frz o (.tup xs)))
def tTupF (t : TA) : TE := fun σ H Q => t σ H fun xs H1 => xs.length ≤ sizeLine ∧ NewT H1 xs Q
theorem pe_tupF {x1 : Nat} (h : PA X es t) : PE X (.Tuple es x1 pos) (tTupF t) := by
  refine ⟨fun pins s σ H Q I hq => ?_⟩
  refine wpAny_Tuple_spliced (thn (h.run pos pins s σ H _ I hq) fun us s1 ⟨xs, H1, I1, r, z, q⟩ => ⟨by rw [← r.length]; exact z, ?_⟩)
  have hf : H1 s1.heap.objs.size = none := I1.hok.fresh (Nat.le_refl _)
  exact ⟨.ref s1.heap.objs.size, _, I1.laid (t' := s1.toks) (o := .frz { cls := .type "tuple", data := .seq us.toArray } (.tup xs)) (fun b u e => Heap.get?_push_of_some _ e) (Nat.le_refl _) ⟨Heap.get?_push_size _ rfl, z, us, r, ⟨_, Heap.get?_push_size _ rfl, rfl, _, rfl⟩⟩, rfl, q _ _ hf rfl⟩
theorem call_tupleF : CallR X (.type "tuple") (fun xs H Q => ∃ p ys, xs = [.ref p] ∧ ((SqL X.K H p ys ∧ NewT H ys Q) ∨ (SqT X.K H p ys ∧ Q (.ref p) H))) := by
  intro pins s σ H xs us Q I r h
  obtain ⟨p, ys, rfl, h⟩ := h
  obtain ⟨u, rfl, rx⟩ := vals1 r
  cases rx
  rcases h with ⟨hq, q⟩ | ⟨hq, q⟩
  · obtain ⟨its, r', pl, hz⟩ := I.list hq
    have hlen := r'.length
    refine call_tuple_list pl.isList (fun h' kp => ?_) (by simp only [List.size_toArray] <;> omega)
    have I1 : Inv X pins σ H { s with heap := h' } := I.kept (t' := s.toks) kp
    have I2 : Inv X pins σ (upd H h'.objs.size (.frz { cls := .type "tuple", data := .seq its.toArray } (.tup ys))) { s with heap := h'.push { cls := .type "tuple", data := .seq its.toArray } } :=
      I1.laid (t' := s.toks) (fun b o e => Heap.get?_push_of_some _ e) (Nat.le_refl _) ⟨Heap.get?_push_size _ rfl, hz, its, r', IsTup.new _ _⟩
    exact ⟨.ref h'.objs.size, _, I2, rfl, q _ _ (I1.hok.fresh (Nat.le_refl _)) rfl⟩
  · obtain ⟨its, r', pl, hz⟩ := I.tuple hq
    exact call_tuple_same pl ⟨.ref p, H, I, rfl, q⟩
def rCatF (K : PySem.W.Frag) : R2 := fun x y H Q => ∃ a b xs ys, x = .ref a ∧ y = .ref b ∧ SqT K H a xs ∧ SqT K H b ys ∧ xs.length + ys.length ≤ sizeLine ∧
  (xs = [] → Q (.ref b) H) ∧ (xs ≠ [] → ys = [] → Q (.ref a) H) ∧ (xs ≠ [] → ys ≠ [] → NewT H (xs ++ ys) Q)
theorem op_catF : OpR X (binaryOp .Add) (rCatF X.K) := by
  intro pins s σ H x y v u Q I rx ry h
  obtain ⟨a, b, xs, ys, rfl, rfl, ha, hb, hz, q0, q1, q2⟩ := h
  cases rx
  cases ry
  obtain ⟨its, r1, p1, _⟩ := I.tuple ha
  obtain ⟨its2, r2, p2, _⟩ := I.tuple hb
  by_cases hx : xs = []
  · subst hx
    cases r1
    exact cat_tup0 p1 p2 ⟨.ref b, H, I, rfl, q0 rfl⟩
  · refine HT.cat_tup p1 p2 (fun z => hx (r1.nil_iff.mp z)) (fun z => ⟨.ref a, H, I, rfl, q1 hx (r2.nil_iff.mp z)⟩) (fun z => ?_) (by rw [← r1.length, ← r2.length]; exact hz)
    refine ⟨.ref s.heap.objs.size, _, I.laid (t' := s.toks) (o := .frz { cls := .type "tuple", data := .seq (its ++ its2).toArray } (.tup (xs ++ ys))) (fun b ob q => Heap.get?_push_of_some _ q) (Nat.le_refl _) ?_, rfl, q2 hx (fun w => z (r2.nil_iff.mpr w)) _ _ (I.hok.fresh (Nat.le_refl _)) rfl⟩
    exact ⟨Heap.get?_push_size _ rfl, by rw [List.length_append]; exact hz, _, r1.append r2, IsTup.new _ _⟩
def rSlF (K : PySem.W.Frag) : V → Option Int → Option Int → Hp → VK → Prop := fun x lo hi H Q => ∃ a xs, x = .ref a ∧ SqT K H a xs ∧
  (HT.sIx xs.length 0 lo = 0 ∧ HT.sIx xs.length xs.length hi = xs.length → Q (.ref a) H) ∧ (¬ (HT.sIx xs.length 0 lo = 0 ∧ HT.sIx xs.length xs.length hi = xs.length) → NewT H (cutV xs lo hi) Q)
theorem sl_tupF : SlR X (rSlF X.K) := by
  intro pins s σ H x v vl vu lo hi sl Q I rx hs pl pu h
  obtain ⟨a, xs, rfl, hx, q1, q2⟩ := h
  cases rx
  obtain ⟨its, r, ht, hz⟩ := I.tuple hx
  have hlen : its.toArray.size = xs.length := by rw [List.size_toArray]; exact r.length.symm
  refine ⟨"tuple", _, PyProof.Rows.slot_tuple_getitem.lookup, ht.typeIs, ?_⟩
  by_cases hw : HT.sIx xs.length 0 lo = 0 ∧ HT.sIx xs.length xs.length hi = xs.length
  · exact getItem_tuple_whole ht hs pl pu (by rw [hlen]; exact hw) ⟨.ref a, H, I, rfl, q1 hw⟩
  · refine HT.getItem_tuple_cut ht hs pl pu (by rw [hlen]; exact hw) ?_ (by rw [hlen]; exact hz)
    rw [hlen]
    refine ⟨.ref s.heap.objs.size, _, I.laid (t' := s.toks) (o := .frz { cls := .type "tuple", data := .seq ((its.drop (HT.sIx xs.length 0 lo)).take (HT.sIx xs.length xs.length hi - HT.sIx xs.length 0 lo)).toArray } (.tup (cutV xs lo hi))) (fun b ob q => Heap.get?_push_of_some _ q) (Nat.le_refl _) ?_, rfl, q2 hw _ _ (I.hok.fresh (Nat.le_refl _)) rfl⟩
    exact ⟨Heap.get?_push_size _ rfl, Nat.le_trans (cutV_length xs lo hi) hz, _, (r.drop (HT.sIx xs.length 0 lo)).take (HT.sIx xs.length xs.length hi - HT.sIx xs.length 0 lo), IsTup.new _ _⟩
def tTupRgF (te : L2.St → Hp → (Int → Int → Hp → Prop) → Prop) : TE := fun σ H Q => te σ H fun a b H1 => RgOk a b ∧ NewT H1 (rgV a b) Q
/-- t[::-1] of a tuple -/
def tRevT (K : PySem.W.Frag) (te : TE) : TE := fun σ H Q => te σ H fun x H1 => ∃ a xs, x = .ref a ∧ SqT K H1 a xs ∧ NewT H1 xs.reverse Q
/-! ### sum of a tuple -/
theorem preSum_take (ns : List Int) : ∀ n, preSum (fun i => ns.getD i 0) n = (ns.take n).sum
  | 0 => by simp [preSum]
  | n + 1 => by
    have ih := preSum_take ns n
    show preSum (fun i => ns.getD i 0) n + ns.getD n 0 = _
    rw [ih]
    by_cases h : n < ns.length
    · rw [List.take_add_one, List.getElem?_eq_getElem h, List.sum_append]
      simp [List.getD_eq_getElem?_getD, List.getElem?_eq_getElem h]
    · rw [List.take_of_length_le (by omega), List.take_of_length_le (by omega)]
      simp [List.getD_eq_getElem?_getD, List.getElem?_eq_none (by omega : ns.length ≤ n)]
def rSumT (K : PySem.W.Frag) : List V → Hp → VK → Prop := fun vs H Q => ∃ (a : Addr) (ns : List Int), vs = [V.ref a] ∧ SqT K H a (ns.map V.int) ∧ Q (.int ns.sum) H
theorem cr_sumT (hc : X.calm = true) : CallR X (.builtin "sum") (rSumT X.K) := by
  intro pins s σ H vs us Q I r h
  obtain ⟨a, ns, rfl, hs, q⟩ := h
  obtain ⟨its, rv, ht, hz⟩ := I.tuple hs
  rw [Vals.ref1 r]
  have hlen : its.length = ns.length := by have := rv.length; rw [List.length_map] at this; exact this.symm
  have hT : s.heap.IsTuple a its.toArray := ht
  refine call_sum_walkG (wpAny_pyIter_tuple hT ?_)
  have hlt : a < s.heap.objs.size := by
    obtain ⟨o, ho, _⟩ := ht
    exact Heap.lt_size ho
  refine ⟨_, _, _, _, _, _, fun i => ns.getD i 0, rfl, Walks.tuple (A := X.A.in1) (I.ok.hd hc) _ a (Nat.ne_of_lt hlt) its.toArray, ⟨⟨_, Heap.get?_push_size _ rfl, rfl, rfl⟩, ?_⟩, ?_, ?_, fun h' tk t' hk => ?_⟩
  · obtain ⟨o, ho, hc2⟩ := ht
    exact ⟨o, Heap.get?_push_of_some _ ho, hc2⟩
  · intro b hb
    show b < (s.heap.push _).objs.size
    rw [Heap.size_push]
    rcases List.mem_cons.mp hb with e | hb
    · subst e; exact Nat.lt_succ_self _
    · rcases List.mem_cons.mp hb with e | hb
      · subst e; exact Nat.lt_succ_of_lt hlt
      · cases hb
  · intro i v hv
    have hi : i < ns.length := by
      have := (Array.getElem?_eq_some_iff.mp hv).1
      simpa [hlen] using this
    obtain ⟨u, hu, t, hu2⟩ := rv.get (i := i) (x := .int ns[i]) (by simp [hi])
    have e : its[i]? = some v := by simpa using hv
    rw [hu] at e
    cases e
    exact ⟨t, by rw [hu2]; simp [List.getD_eq_getElem?_getD, hi]⟩
  · have e : preSum (fun i => ns.getD i 0) its.toArray.size = ns.sum := by
      rw [preSum_take, List.size_toArray, hlen, List.take_of_length_le (Nat.le_refl _)]
    rw [e]
    exact ⟨.int _, H, I.kept fun b o eo => hk b o (fun hm => by
      rcases List.mem_cons.mp hm with e1 | hm
      · exact absurd (e1 ▸ Heap.lt_size eo) (Nat.lt_irrefl _)
      · cases hm) (Heap.get?_push_of_some _ eo), ⟨_, rfl⟩, q⟩

/-! ### t.index(x) of flat things -/
def rIndexT (K : PySem.W.Frag) : V → List V → Hp → VK → Prop := fun x xs H Q => ∃ (a : Addr) (ys : List V) (y : V) (j : Nat) (z : V), x = V.ref a ∧ xs = [y] ∧ SqT K H a ys ∧ flatV y = true ∧ ys.all flatV = true ∧ ys[j]? = some z ∧ eqV z y = true ∧
  (∀ (m : Nat) (z' : V), m < j → ys[m]? = some z' → eqV z' y = false) ∧ Q (.int (j : Nat)) H
/-- t.m(e, ..) of a tuple -/
def tBMT (K : PySem.W.Frag) (r : V → List V → Hp → VK → Prop) (to : TE) (t : TA) : TE := fun σ H Q => to σ H fun x H1 => (∃ a vs, x = .ref a ∧ SqF K H1 a vs) ∧ t σ H1 fun xs H2 => r x xs H2 Q
end
end Mp

/-! Mp: a small value language over the hand layer. Data, how it lies in the abstract heap, the ghost state of a def's run. -/
namespace Mp
open PySem PySem.Spec L2

/-- data: what a value is, without addresses -/
inductive D where
  | non | bl (b : Bool) | int (i : Int) | str (x : Str) | tup (xs : List D) | lst (xs : List D) | dct (kvs : List (Key × D)) | jar | obj (a : Addr) | ins (c : Nat) (fs : List (Str × D)) | dtp (kvs : List (List Key × D)) | exc (c : Nat) (fs : List D)
  deriving Inhabited

/-- the random source of a law (J its state), and the classes -/
structure Js (J : Type) where
  K : PySem.W.Frag
  R : V
  cl : Nat → Addr
  xc : Nat → Addr
  xf : Nat → Str
  rep : J → Hp → (Addr → Prop) → Hp → Prop
  frame : ∀ {j : J} {F F' : Hp} {A : Addr → Prop} {H H' : Hp}, rep j F A H → Same F F' → (∀ b, A b → H' b = H b) → rep j F' A H'
  dom : ∀ {j : J} {F : Hp} {A : Addr → Prop} {H : Hp} {b : Addr}, rep j F A H → A b → H b ≠ none

/-- an exception object of the class at C, its dict at dx -/
def ExT (C : Addr) (dx : Option Addr) (a : Addr) : HO := .ext fun h => ∃ (oe : Obj) (vs : Array Value), h.get? a = some oe ∧ Zc (.ref C) dx oe ∧ oe.data = .fields vs
variable {J : Type}
mutual
inductive Rp (S : Js J) (F : Hp) : D → V → Prop
  | non : Rp S F .non .non
  | bl (b : Bool) : Rp S F (.bl b) (.bl b)
  | int (i : Int) : Rp S F (.int i) (.int i)
  | str (x : Str) : Rp S F (.str x) (.str x)
  | tup {a : Addr} {ds : List D} {vs : List V} : SqF S.K F a vs → RpL S F ds vs → Rp S F (.tup ds) (.ref a)
  | lst {a : Addr} {ds : List D} {vs : List V} : F a = some (.lst vs) → RpL S F ds vs → Rp S F (.lst ds) (.ref a)
  | dct {a : Addr} {kds : List (Key × D)} {kvs : List (Key × V)} : F a = some (.dK kvs) → kds.map Prod.fst = kvs.map Prod.fst → RpL S F (kds.map Prod.snd) (kvs.map Prod.snd) → Rp S F (.dct kds) (.ref a)
  | jar : Rp S F .jar S.R
  | obj (a : Addr) : Rp S F (.obj a) (.ref a)
  | ins {a dx : Addr} {c : Nat} {kds : List (Str × D)} {kvs : List (Str × V)} : F a = some (.ins (S.cl c) dx kvs) → kds.map Prod.fst = kvs.map Prod.fst → RpL S F (kds.map Prod.snd) (kvs.map Prod.snd) → Rp S F (.ins c kds) (.ref a)
  | dtp {a : Addr} {kds : List (List Key × D)} {kvs : List (List Key × V)} : F a = some (.dT kvs) → kds.map Prod.fst = kvs.map Prod.fst → RpL S F (kds.map Prod.snd) (kvs.map Prod.snd) → Rp S F (.dtp kds) (.ref a)
  | exc0 {a : Addr} {c : Nat} : F a = some (ExT (S.xc c) none a) → Rp S F (.exc c []) (.ref a)
  | exc1 {a dd : Addr} {c : Nat} {d : D} {v : V} : F a = some (ExT (S.xc c) (some dd) a) → F dd = some (.xd [(S.xf c, v)]) → Rp S F d v → Rp S F (.exc c [d]) (.ref a)
inductive RpL (S : Js J) (F : Hp) : List D → List V → Prop
  | nil : RpL S F [] []
  | cons {d : D} {ds : List D} {v : V} {vs : List V} : Rp S F d v → RpL S F ds vs → RpL S F (d :: ds) (v :: vs)
end

theorem RpL.length {S : Js J} {F : Hp} : ∀ {ds : List D} {vs : List V}, RpL S F ds vs → ds.length = vs.length
  | _, _, .nil => rfl
  | _, _, .cons _ t => by rw [List.length_cons, List.length_cons, t.length]

theorem sqL_same {K : PySem.W.Frag} {F G : Hp} (e : Same F G) {a : Addr} {xs : List V} (h : SqL K F a xs) : SqL K G a xs := e.seq h
theorem sqT_same {K : PySem.W.Frag} {F G : Hp} (e : Same F G) {a : Addr} {xs : List V} (h : SqT K F a xs) : SqT K G a xs := by
  rcases h with (h | ⟨o, h⟩) | h
  · exact .inl (.inl (e _ _ h))
  · exact .inl (.inr ⟨o, e _ _ h⟩)
  · exact .inr h

mutual
theorem Rp.mono {S : Js J} {F G : Hp} (e : Same F G) : ∀ {d : D} {v : V}, Rp S F d v → Rp S G d v
  | _, _, .non => .non
  | _, _, .bl b => .bl b
  | _, _, .int i => .int i
  | _, _, .str x => .str x
  | _, _, .tup h t => .tup (h.same e) (RpL.mono e t)
  | _, _, .lst h t => .lst (e _ _ h) (RpL.mono e t)
  | _, _, .dct h l t => .dct (e _ _ h) l (RpL.mono e t)
  | _, _, .jar => .jar
  | _, _, .obj a => .obj a
  | _, _, .ins h l t => .ins (e _ _ h) l (RpL.mono e t)
  | _, _, .dtp h l t => .dtp (e _ _ h) l (RpL.mono e t)
  | _, _, .exc0 h => .exc0 (e _ _ h)
  | _, _, .exc1 h h2 t => .exc1 (e _ _ h) (e _ _ h2) (Rp.mono e t)
theorem RpL.mono {S : Js J} {F G : Hp} (e : Same F G) : ∀ {ds : List D} {vs : List V}, RpL S F ds vs → RpL S G ds vs
  | _, _, .nil => .nil
  | _, _, .cons h t => .cons (Rp.mono e h) (RpL.mono e t)
end

section
variable {S : Js J} {F : Hp}
theorem RpL.get : ∀ {ds : List D} {vs : List V} {i : Nat} {d : D}, RpL S F ds vs → ds[i]? = some d → ∃ v, vs[i]? = some v ∧ Rp S F d v
  | _, _, _, _, .nil, e => by simp at e
  | _, _, 0, _, .cons r _, e => by simp at e; subst e; exact ⟨_, rfl, r⟩
  | _, _, i + 1, d, .cons _ t, e => by
    obtain ⟨u, h1, h2⟩ := RpL.get (i := i) (d := d) t (by simpa using e)
    exact ⟨u, by simpa using h1, h2⟩
theorem RpL.get' : ∀ {ds : List D} {vs : List V} {i : Nat} {v : V}, RpL S F ds vs → vs[i]? = some v → ∃ d, ds[i]? = some d ∧ Rp S F d v
  | _, _, _, _, .nil, e => by simp at e
  | _, _, 0, _, .cons r _, e => by simp at e; subst e; exact ⟨_, rfl, r⟩
  | _, _, i + 1, d, .cons _ t, e => by
    obtain ⟨u, h1, h2⟩ := RpL.get' (i := i) (v := d) t (by simpa using e)
    exact ⟨u, by simpa using h1, h2⟩
theorem RpL.append : ∀ {ds es : List D} {vs ws : List V}, RpL S F ds vs → RpL S F es ws → RpL S F (ds ++ es) (vs ++ ws)
  | _, _, _, _, .nil, h => h
  | _, _, _, _, .cons r t, h => .cons r (RpL.append t h)
theorem RpL.take : ∀ (n : Nat) {ds : List D} {vs : List V}, RpL S F ds vs → RpL S F (ds.take n) (vs.take n)
  | 0, _, _, _ => .nil
  | _ + 1, _, _, .nil => .nil
  | n + 1, _, _, .cons r t => .cons r (RpL.take n t)
theorem RpL.drop : ∀ (n : Nat) {ds : List D} {vs : List V}, RpL S F ds vs → RpL S F (ds.drop n) (vs.drop n)
  | 0, _, _, h => h
  | _ + 1, _, _, .nil => .nil
  | n + 1, _, _, .cons r t => RpL.drop n t
theorem RpL.reverse {ds : List D} {vs : List V} (h : RpL S F ds vs) : RpL S F ds.reverse vs.reverse := by
  induction ds generalizing vs with
  | nil => cases h; exact .nil
  | cons d ds ih =>
    cases h with
    | cons r t =>
      rw [List.reverse_cons, List.reverse_cons]
      exact (ih t).append (.cons r .nil)
theorem RpL.set {d : D} {v : V} (r : Rp S F d v) : ∀ (n : Nat) {ds : List D} {vs : List V}, RpL S F ds vs → RpL S F (ds.set n d) (vs.set n v)
  | _, _, _, .nil => .nil
  | 0, _, _, .cons _ t => .cons r t
  | n + 1, _, _, .cons q t => .cons q (RpL.set r n t)
theorem RpL.eraseIdx : ∀ (n : Nat) {ds : List D} {vs : List V}, RpL S F ds vs → RpL S F (ds.eraseIdx n) (vs.eraseIdx n)
  | _, _, _, .nil => .nil
  | 0, _, _, .cons _ t => t
  | n + 1, _, _, .cons q t => .cons q (RpL.eraseIdx n t)
theorem RpL.dropLast {ds : List D} {vs : List V} (h : RpL S F ds vs) : RpL S F ds.dropLast vs.dropLast := by
  rw [List.dropLast_eq_take, List.dropLast_eq_take, h.length]
  exact h.take _
theorem RpL.ints : ∀ (ns : List Int), RpL S F (ns.map D.int) (ns.map V.int)
  | [] => .nil
  | n :: ns => .cons (.int n) (RpL.ints ns)
theorem RpL.of_ints : ∀ {ns : List Int} {vs : List V}, RpL S F (ns.map D.int) vs → vs = ns.map V.int
  | [], _, h => by cases h; rfl
  | n :: ns, _, h => by
    cases h with
    | cons r t => cases r; rw [RpL.of_ints t]; rfl
theorem RpL.of_bls : ∀ {ns : List Bool} {vs : List V}, RpL S F (ns.map D.bl) vs → vs = ns.map V.bl
  | [], _, h => by cases h; rfl
  | n :: ns, _, h => by
    cases h with
    | cons r t => cases r; rw [RpL.of_bls t]; rfl
theorem RpL.of_strs : ∀ {ns : List Str} {vs : List V}, RpL S F (ns.map D.str) vs → vs = ns.map V.str
  | [], _, h => by cases h; rfl
  | n :: ns, _, h => by
    cases h with
    | cons r t => cases r; rw [RpL.of_strs t]; rfl
theorem RpL.strs : ∀ (ns : List Str), RpL S F (ns.map D.str) (ns.map V.str)
  | [] => .nil
  | n :: ns => .cons (.str n) (RpL.strs ns)
end

/-- a source that does not look at what is frozen -/
class PureJ (S : Js J) : Prop where
  pu : ∀ {j : J} {F F' : Hp} {A : Addr → Prop} {H : Hp}, S.rep j F A H → S.rep j F' A H
/-! ### the ghost state -/
/-- F: what is frozen; G: what is seen (F, and what this def owns); A: where the random source lies -/
structure Gh where
  F : Hp
  G : Hp
  A : Addr → Prop
/-- the entry of a def -/
structure Bs where
  F0 : Hp
  H0 : Hp
  A0 : Addr → Prop
structure OkB (S : Js J) (B : Bs) (g : Gh) (H : Hp) (j : J) : Prop where
  fg : Same g.F g.G
  gh : Same g.G H
  ga : ∀ b o, g.G b = some o → ¬ g.A b
  jr : S.rep j g.F g.A H
  f0 : Same B.F0 g.F
  g0 : ∀ b o, g.G b = some o → B.F0 b = some o ∨ B.H0 b = none
  a0 : ∀ b, g.A b → B.A0 b ∨ B.H0 b = none
  h0 : ∀ b o, B.H0 b = some o → ¬ B.A0 b → H b = some o
  h1 : ∀ b, H b = none → B.H0 b = none
  sm : ∃ o u, H sysModules = some (.frz o u)

/-- a mutable thing at a that a slot alone holds -/
def Own (S : Js J) (g : Gh) (d : D) (a : Addr) : Prop :=
  g.F a = none ∧ ((∃ ds vs, d = .lst ds ∧ g.G a = some (.lst vs) ∧ RpL S g.F ds vs) ∨
    (∃ kds kvs, d = .dct kds ∧ g.G a = some (.dK kvs) ∧ kds.map Prod.fst = kvs.map Prod.fst ∧ RpL S g.F (kds.map Prod.snd) (kvs.map Prod.snd)) ∨
    (∃ kds kvs, d = .dtp kds ∧ g.G a = some (.dT kvs) ∧ kds.map Prod.fst = kvs.map Prod.fst ∧ RpL S g.F (kds.map Prod.snd) (kvs.map Prod.snd)))
abbrev Sd := List (Option D)
structure Slots (S : Js J) (g : Gh) (M : Nat → Bool) (r : St) (m : Sd) : Prop where
  len : r.length = m.length
  fr : ∀ i d, m[i]? = some (some d) → M i = false → ∃ v, r[i]? = some (some v) ∧ Rp S g.F d v
  ow : ∀ i d, m[i]? = some (some d) → M i = true → ∃ a, r[i]? = some (some (.ref a)) ∧ Own S g d a
  dj : ∀ i j a d e, m[i]? = some (some d) → m[j]? = some (some e) → M i = true → M j = true → r[i]? = some (some (.ref a)) → r[j]? = some (some (.ref a)) → i = j
structure Ok (S : Js J) (B : Bs) (g : Gh) (M : Nat → Bool) (r : St) (H : Hp) (m : Sd) (j : J) : Prop where
  b : OkB S B g H j
  s : Slots S g M r m

structure Le (p q : Gh) : Prop where
  f : Same p.F q.F
  g : Same p.G q.G
  n : ∀ b o, q.F b = some o → p.F b = some o ∨ p.G b = none
theorem Le.refl (g : Gh) : Le g g := ⟨Same.refl _, Same.refl _, fun _ _ e => .inl e⟩
theorem Le.trans {g1 g2 g3 : Gh} (x : Le g1 g2) (y : Le g2 g3) : Le g1 g3 :=
  ⟨x.f.trans y.f, x.g.trans y.g, fun b o e => by
    rcases y.n b o e with h | h
    · exact x.n b o h
    · right
      exact x.g.free h⟩

inductive Cl | fresh | clean | mix
  deriving DecidableEq
/-- what is known of a value, by its class; g the ghost ahead of its evaluation, g' behind -/
def Val (S : Js J) (g g' : Gh) : Cl → D → V → Prop
  | .fresh, d, v => ∃ a, v = .ref a ∧ g.G a = none ∧ Own S g' d a
  | .clean, d, v => Rp S g'.F d v
  | .mix, d, v => Rp S g'.G d v

section
variable {S : Js J} {B : Bs} {g g' g'' : Gh} {H H' : Hp} {j j' : J} {d : D} {v : V} {a : Addr} {M : Nat → Bool} {r : St} {m : Sd}
theorem Own.rp (h : Own S g d a) (fg : Same g.F g.G) : Rp S g.G d (.ref a) := by
  obtain ⟨_, ⟨ds, vs, rfl, e, t⟩ | ⟨kds, kvs, rfl, e, l, t⟩ | ⟨kds, kvs, rfl, e, l, t⟩⟩ := h
  · exact .lst e (t.mono fg)
  · exact .dct e l (t.mono fg)
  · exact .dtp e l (t.mono fg)
theorem Own.in_g (h : Own S g d a) : ∃ o, g.G a = some o := by
  obtain ⟨_, ⟨ds, vs, rfl, e, t⟩ | ⟨kds, kvs, rfl, e, l, t⟩ | ⟨kds, kvs, rfl, e, l, t⟩⟩ := h
  · exact ⟨_, e⟩
  · exact ⟨_, e⟩
  · exact ⟨_, e⟩
theorem Own.le (h : Own S g d a) (l : Le g g') : Own S g' d a := by
  obtain ⟨o, ho⟩ := h.in_g
  have n : g'.F a = none := by
    cases q : g'.F a with
    | none => rfl
    | some u =>
      rcases l.n a u q with z | z
      · rw [h.1] at z; cases z
      · rw [ho] at z; cases z
  refine ⟨n, ?_⟩
  obtain ⟨_, ⟨ds, vs, rfl, e, t⟩ | ⟨kds, kvs, rfl, e, l', t⟩ | ⟨kds, kvs, rfl, e, l', t⟩⟩ := h
  · exact .inl ⟨ds, vs, rfl, l.g _ _ e, t.mono l.f⟩
  · exact .inr (.inl ⟨kds, kvs, rfl, l.g _ _ e, l', t.mono l.f⟩)
  · exact .inr (.inr ⟨kds, kvs, rfl, l.g _ _ e, l', t.mono l.f⟩)
theorem Slots.le (h : Slots S g M r m) (l : Le g g') : Slots S g' M r m :=
  ⟨h.len, fun i d e q => let ⟨v, h1, h2⟩ := h.fr i d e q; ⟨v, h1, h2.mono l.f⟩, fun i d e q => let ⟨a, h1, h2⟩ := h.ow i d e q; ⟨a, h1, h2.le l⟩, h.dj⟩
theorem Val.mix {c : Cl} (h : Val S g g' c d v) (fg : Same g'.F g'.G) : Rp S g'.G d v := by
  cases c with
  | fresh => obtain ⟨a, rfl, _, o⟩ := h; exact o.rp fg
  | clean => exact Rp.mono fg h
  | mix => exact h
theorem Val.le {c : Cl} (h : Val S g g' c d v) (l : Le g' g'') : Val S g g'' c d v := by
  cases c with
  | fresh => obtain ⟨a, rfl, n, o⟩ := h; exact ⟨a, rfl, n, o.le l⟩
  | clean => exact Rp.mono l.f h
  | mix => exact Rp.mono l.g h
theorem Val.back {g0 : Gh} {c : Cl} (h : Val S g g' c d v) (l : Le g0 g) : Val S g0 g' c d v := by
  cases c with
  | fresh => obtain ⟨a, rfl, n, o⟩ := h; exact ⟨a, rfl, l.g.free n, o⟩
  | clean => exact h
  | mix => exact h

theorem OkB.hn (k : OkB S B g H j) {p : Addr} (h : H p = none) : g.F p = none ∧ g.G p = none ∧ ¬ g.A p ∧ B.H0 p = none := by
  have hg : g.G p = none := k.gh.free h
  refine ⟨k.fg.free hg, hg, fun z => k.jr |> fun q => S.dom q z h, k.h1 p h⟩
/-- a new object that is seen, not frozen -/
def Gh.see (g : Gh) (p : Addr) (o : HO) : Gh := ⟨g.F, upd g.G p o, g.A⟩
/-- a new object, frozen -/
def Gh.frz (g : Gh) (p : Addr) (o : HO) : Gh := ⟨upd g.F p o, upd g.G p o, g.A⟩
theorem same_upd {F G : Hp} {p : Addr} {o : HO} (e : Same F G) : Same (upd F p o) (upd G p o) := fun b u h => by
  by_cases hb : b = p
  · subst hb; rw [upd_same] at h ⊢; exact h
  · rw [upd_ne hb] at h ⊢; exact e b u h
theorem same_new {F : Hp} {p : Addr} {o : HO} (n : F p = none) : Same F (upd F p o) := fun b u h => by
  rw [upd_ne (ne_of_none h n)]; exact h
theorem Le.see {p : Addr} {o : HO} (n : g.G p = none) : Le g (g.see p o) := ⟨Same.refl _, same_new n, fun _ _ e => .inl e⟩
theorem Le.frz {p : Addr} {o : HO} (fg : Same g.F g.G) (n : g.G p = none) : Le g (g.frz p o) :=
  ⟨same_new (fg.free n), same_new n, fun b u e => by
    by_cases hb : b = p
    · subst hb; exact .inr n
    · left
      have e' : upd g.F p o b = some u := e
      rw [upd_ne hb] at e'
      exact e'⟩
theorem OkB.see (k : OkB S B g H j) {p : Addr} (o : HO) (h : H p = none) : OkB S B (g.see p o) (upd H p o) j := by
  obtain ⟨hf, hg, ha, h0⟩ := k.hn h
  refine ⟨k.fg.trans (same_new hg), same_upd k.gh, fun b u e => ?_, S.frame k.jr (Same.refl _) fun b z => upd_ne fun q => ha (q ▸ z), k.f0, fun b u e => ?_, k.a0, fun b u e n => ?_, fun b e => ?_, ?_⟩
  · by_cases hb : b = p
    · subst hb; exact ha
    · have e' : upd g.G p o b = some u := e
      rw [upd_ne hb] at e'
      exact k.ga b u e'
  · by_cases hb : b = p
    · subst hb; exact .inr h0
    · have e' : upd g.G p o b = some u := e
      rw [upd_ne hb] at e'
      exact k.g0 b u e'
  · rw [upd_ne (ne_of_none e h0)]; exact k.h0 b u e n
  · by_cases hb : b = p
    · subst hb; exact h0
    · rw [upd_ne hb] at e; exact k.h1 b e
  · obtain ⟨o1, u1, e1⟩ := k.sm
    exact ⟨o1, u1, by rw [upd_ne (ne_of_none e1 h)]; exact e1⟩
theorem OkB.frz (k : OkB S B g H j) {p : Addr} (o : HO) (h : H p = none) : OkB S B (g.frz p o) (upd H p o) j := by
  obtain ⟨hf, hg, ha, h0⟩ := k.hn h
  have q := k.see o h
  exact ⟨same_upd k.fg, q.gh, q.ga, S.frame q.jr (same_new hf) fun _ _ => rfl, k.f0.trans (same_new hf), q.g0, q.a0, q.h0, q.h1, q.sm⟩
/-- freeze an owned thing -/
def Gh.ice (g : Gh) (a : Addr) : Gh := ⟨fun b => if b = a then g.G a else g.F b, g.G, g.A⟩
theorem ice_same {a : Addr} (n : g.F a = none) : Same g.F (g.ice a).F := fun b o e => by
  show (if b = a then g.G a else g.F b) = some o
  by_cases hb : b = a
  · subst hb; rw [n] at e; cases e
  · rw [if_neg hb]; exact e
theorem ice_at {a : Addr} : (g.ice a).F a = g.G a := if_pos rfl
theorem OkB.ice (k : OkB S B g H j) {a : Addr} (n : g.F a = none) : OkB S B (g.ice a) H j :=
  ⟨fun b o e => by
    have e' : (if b = a then g.G a else g.F b) = some o := e
    by_cases hb : b = a
    · subst hb; rw [if_pos rfl] at e'; exact e'
    · rw [if_neg hb] at e'; exact k.fg b o e', k.gh, k.ga, S.frame k.jr (ice_same n) fun _ _ => rfl, k.f0.trans (ice_same n), k.g0, k.a0, k.h0, k.h1, k.sm⟩
theorem Own.ice (h : Own S g d a) : Rp S (g.ice a).F d (.ref a) := by
  obtain ⟨n, ⟨ds, vs, rfl, e, t⟩ | ⟨kds, kvs, rfl, e, l, t⟩ | ⟨kds, kvs, rfl, e, l, t⟩⟩ := h
  · exact .lst (ice_at.trans e) (t.mono (ice_same n))
  · exact .dct (ice_at.trans e) l (t.mono (ice_same n))
  · exact .dtp (ice_at.trans e) l (t.mono (ice_same n))
theorem Le.ice {a : Addr} (l : Le g g') (n : g.G a = none) (n' : g'.F a = none) : Le g (g'.ice a) :=
  ⟨l.f.trans (ice_same n'), l.g, fun b o e => by
    have e' : (if b = a then g'.G a else g'.F b) = some o := e
    by_cases hb : b = a
    · subst hb; exact .inr n
    · rw [if_neg hb] at e'; exact l.n b o e'⟩
/-- the slots do not see the freezing of what none of them holds -/
theorem Slots.ice {a : Addr} (h : Slots S g M r m) (l : Le g g') (n : g.G a = none) (n' : g'.F a = none) : Slots S (g'.ice a) M r m := h.le (l.ice n n')
end

/-! ### an exception: its class, its field's value -/
structure Ex where
  c : Nat
  d : Option D
def ExR (S : Js J) (F : Hp) (e : Ex) (cls : Value) (dx : Option Addr) : Prop :=
  cls = .ref (S.xc e.c) ∧ match e.d with
    | none => dx = none
    | some d => ∃ a v, dx = some a ∧ F a = some (.xd [(S.xf e.c, v)]) ∧ Rp S F d v
theorem ExR.mono {S : Js J} {F G : Hp} {e : Ex} {cls : Value} {dx : Option Addr} (h : ExR S F e cls dx) (s : Same F G) : ExR S G e cls dx := by
  obtain ⟨h1, h2⟩ := h
  refine ⟨h1, ?_⟩
  split at h2
  · exact h2
  · obtain ⟨a, v, h3, h4, h5⟩ := h2
    exact ⟨a, v, h3, s _ _ h4, h5.mono s⟩
end Mp

/-! N2: closures by what they bring about (with what is raised); the readings; operators, arguments, displays. -/
namespace Mp
open PySem PySem.Spec L2
variable {J : Type}

abbrev XP (J : Type) := Ex → Sd → J → Prop
abbrev Ev (J : Type) := Sd → J → (D → J → Prop) → XP J → Prop
abbrev Tv (J : Type) := Sd → J → (Bool → J → Prop) → XP J → Prop
abbrev Av (J : Type) := Sd → J → (List D → J → Prop) → XP J → Prop

/-- what is told of a closure: more is brought about, if more is wished -/
class MoE (f : Ev J) : Prop where
  mo : ∀ {m : Sd} {j : J} {P P' : D → J → Prop} {E E' : XP J}, f m j P E → (∀ d j', P d j' → P' d j') → (∀ e m' j', E e m' j' → E' e m' j') → f m j P' E'
class MoT (f : Tv J) : Prop where
  mo : ∀ {m : Sd} {j : J} {P P' : Bool → J → Prop} {E E' : XP J}, f m j P E → (∀ d j', P d j' → P' d j') → (∀ e m' j', E e m' j' → E' e m' j') → f m j P' E'
class MoA (f : Av J) : Prop where
  mo : ∀ {m : Sd} {j : J} {P P' : List D → J → Prop} {E E' : XP J}, f m j P E → (∀ d j', P d j' → P' d j') → (∀ e m' j', E e m' j' → E' e m' j') → f m j P' E'

section
variable (S : Js J) (B : Bs) (M : Nat → Bool) (W : WX)
/-- what is raised is taken -/
def XOut (g : Gh) (E : XP J) : Prop := ∀ e m' j' g' r' H' cls dx, E e m' j' → Same g.F g'.F → Ok S B g' M r' H' m' j' → ExR S g'.F e cls dx → W cls dx r' H'
def rdE (c : Cl) (f : Ev J) : TE := fun r H Q => ∃ g m j P E, Ok S B g M r H m j ∧ f m j P E ∧ (∀ d j' g' v H', P d j' → Le g g' → Ok S B g' M r H' m j' → Val S g g' c d v → Q v H') ∧ XOut S B M W g E
def rdT (f : Tv J) : TT := fun r H Q => ∃ g m j P E, Ok S B g M r H m j ∧ f m j P E ∧ (∀ d j' g' H', P d j' → Le g g' → Ok S B g' M r H' m j' → Q d H') ∧ XOut S B M W g E
/-- arguments: frozen (c = true), or seen -/
def hp (c : Bool) (g : Gh) : Hp := if c then g.F else g.G
def rdA (c : Bool) (f : Av J) : TA := fun r H Q => ∃ g m j P E, Ok S B g M r H m j ∧ f m j P E ∧ (∀ ds j' g' vs H', P ds j' → Le g g' → Ok S B g' M r H' m j' → RpL S (hp c g') ds vs → Q vs H') ∧ XOut S B M W g E
end
theorem XOut.le {S : Js J} {B : Bs} {M : Nat → Bool} {W : WX} {g g' : Gh} {E : XP J} (h : XOut S B M W g E) (l : Same g.F g'.F) : XOut S B M W g' E := fun e m j g2 r H cls dx he l2 => h e m j g2 r H cls dx he (l.trans l2)
def W0 : WX := fun _ _ _ _ => False
theorem takesW0 {X : Cx} : Takes X W0 := fun u s' ⟨a, B, sI, pins, σ, H, cls, d, e, I, nb, up, sky, na, os, ag, w⟩ => w.elim
def xNo : XP J := fun _ _ _ => False
theorem XOut.no {S : Js J} {B : Bs} {M : Nat → Bool} {W : WX} {g : Gh} : XOut S B M W g (xNo : XP J) := fun _ _ _ _ _ _ _ _ h => h.elim

theorem PE.imp {X : Cx} {e : Expr} {t t' : TE} (h : PE X e t) (i : ∀ r H Q, t' r H Q → t r H Q) : PE X e t' := ⟨fun pins s σ H Q I q => h.run pins s σ H Q I (i _ _ _ q)⟩
theorem PE.or {X : Cx} {e : Expr} {t t' : TE} (h : PE X e t) (h' : PE X e t') : PE X e (fun r H Q => t r H Q ∨ t' r H Q) := ⟨fun pins s σ H Q I q => q.elim (h.run pins s σ H Q I) (h'.run pins s σ H Q I)⟩
theorem PT.imp {X : Cx} {e : Expr} {t t' : TT} (h : PT X e t) (i : ∀ r H Q, t' r H Q → t r H Q) : PT X e t' := ⟨fun pins s σ H Q I q => h.run pins s σ H Q I (i _ _ _ q)⟩
theorem PW.imp {X : Cx} {e : Expr} {t t' : TT} (h : PW X e t) (i : ∀ r H Q, t' r H Q → t r H Q) : PW X e t' := ⟨fun wh pins s σ H Q I q => h.run wh pins s σ H Q I (i _ _ _ q)⟩
theorem PA.imp {X : Cx} {e : List Expr} {t t' : TA} (h : PA X e t) (i : ∀ r H Q, t' r H Q → t r H Q) : PA X e t' := ⟨fun p pins s σ H Q I q => h.run p pins s σ H Q I (i _ _ _ q)⟩
theorem PS.imp {X : Cx} {e : Stmt} {t t' : TS} (h : PS X e t) (i : ∀ D r H, t' D r H → t D r H) : PS X e t' := ⟨fun pins s σ H D I q => h.run pins s σ H D I (i _ _ _ q)⟩
theorem PSs.imp {X : Cx} {e : List Stmt} {t t' : TS} (h : PSs X e t) (i : ∀ D r H, t' D r H → t D r H) : PSs X e t' := ⟨fun pins s σ H D I q => h.run pins s σ H D I (i _ _ _ q)⟩
theorem PI.imp {X : Cx} {tg e : Expr} {t t' : TI} (h : PI X tg e t) (i : ∀ r H R, t' r H R → t r H R) : PI X tg e t' := ⟨fun pins s σ H R I q => h.run pins s σ H R I (i _ _ _ q)⟩
theorem PI.or {X : Cx} {tg e : Expr} {t t' : TI} (h : PI X tg e t) (h' : PI X tg e t') : PI X tg e (fun r H Q => t r H Q ∨ t' r H Q) := ⟨fun pins s σ H Q I q => q.elim (h.run pins s σ H Q I) (h'.run pins s σ H Q I)⟩

/-! ### combinators of expressions -/
def eVar (i : Nat) (m : Sd) (j : J) (P : D → J → Prop) (E : XP J) : Prop := ∃ d, m[i]? = some (some d) ∧ P d j
def eC (d : D) (m : Sd) (j : J) (P : D → J → Prop) (E : XP J) : Prop := P d j
def eOp (φ : D → D → Option D) (fa fb : Ev J) (m : Sd) (j : J) (P : D → J → Prop) (E : XP J) : Prop := fa m j (fun x j1 => fb m j1 (fun y j2 => ∃ z, φ x y = some z ∧ P z j2) E) E
def eUn (φ : D → Option D) (fa : Ev J) (m : Sd) (j : J) (P : D → J → Prop) (E : XP J) : Prop := fa m j (fun x j1 => ∃ z, φ x = some z ∧ P z j1) E
def aNil (m : Sd) (j : J) (P : List D → J → Prop) (E : XP J) : Prop := P [] j
def aCons (fa : Ev J) (fr : Av J) (m : Sd) (j : J) (P : List D → J → Prop) (E : XP J) : Prop := fa m j (fun x j1 => fr m j1 (fun xs j2 => P (x :: xs) j2) E) E
def LINE : Nat := 1000000
theorem line_ok : LINE ≤ sizeLine := by rw [sizeLine_eq]; decide
def eTup (f : Av J) (m : Sd) (j : J) (P : D → J → Prop) (E : XP J) : Prop := f m j (fun xs j1 => xs.length ≤ LINE ∧ P (.tup xs) j1) E
def eLst (f : Av J) (m : Sd) (j : J) (P : D → J → Prop) (E : XP J) : Prop := f m j (fun xs j1 => xs.length ≤ LINE ∧ P (.lst xs) j1) E
def eB (φ : List D → Option D) (fa : Av J) (m : Sd) (j : J) (P : D → J → Prop) (E : XP J) : Prop := fa m j (fun xs j1 => ∃ z, φ xs = some z ∧ P z j1) E
section
variable {φ : D → D → Option D} {ψ : D → Option D} {fa fb : Ev J} {fr : Av J} {d : D} {i : Nat} {χ : List D → Option D}
instance : MoE (eVar (J := J) i) := ⟨fun ⟨d, h, p⟩ q _ => ⟨d, h, q _ _ p⟩⟩
instance : MoE (eC (J := J) d) := ⟨fun p q _ => q _ _ p⟩
instance [ha : MoE fa] [hb : MoE fb] : MoE (eOp φ fa fb) := ⟨fun h q x => ha.mo h (fun _ _ h1 => hb.mo h1 (fun _ _ ⟨z, e, p⟩ => ⟨z, e, q _ _ p⟩) x) x⟩
instance [ha : MoE fa] : MoE (eUn ψ fa) := ⟨fun h q x => ha.mo h (fun _ _ ⟨z, e, p⟩ => ⟨z, e, q _ _ p⟩) x⟩
instance : MoA (aNil (J := J)) := ⟨fun p q _ => q _ _ p⟩
instance [ha : MoE fa] [hb : MoA fr] : MoA (aCons fa fr) := ⟨fun h q x => ha.mo h (fun _ _ h1 => hb.mo h1 (fun _ _ p => q _ _ p) x) x⟩
instance [hb : MoA fr] : MoE (eTup fr) := ⟨fun h q x => hb.mo h (fun _ _ p => ⟨p.1, q _ _ p.2⟩) x⟩
instance [hb : MoA fr] : MoE (eLst fr) := ⟨fun h q x => hb.mo h (fun _ _ p => ⟨p.1, q _ _ p.2⟩) x⟩
instance [hb : MoA fr] : MoE (eB χ fr) := ⟨fun h q x => hb.mo h (fun _ _ ⟨z, e, p⟩ => ⟨z, e, q _ _ p⟩) x⟩
end

section
variable {S : Js J} {B : Bs} {M : Nat → Bool} {W : WX} {X : Cx} {e a b c : Expr} {pos : Pos} {f fa fb fc : Ev J}
/-! ### classes -/
theorem toClean (h : PE X e (rdE S B M W .fresh f)) : PE X e (rdE S B M W .clean f) := PE.imp h fun r H Q ⟨g, m, j, P, E, ok, hf, q, x⟩ =>
  ⟨g, m, j, P, E, ok, hf, fun d j' g' v H' p le ok' ⟨a, ev, n, o⟩ => by
    subst ev
    exact q d j' _ _ H' p (le.ice n o.1) ⟨ok'.b.ice o.1, ok.s.ice le n o.1⟩ o.ice, x⟩
theorem toMix {k : Cl} (h : PE X e (rdE S B M W k f)) : PE X e (rdE S B M W .mix f) := PE.imp h fun r H Q ⟨g, m, j, P, E, ok, hf, q, x⟩ =>
  ⟨g, m, j, P, E, ok, hf, fun d j' g' v H' p le ok' w => q d j' g' v H' p le ok' (w.mix ok'.b.fg), x⟩
/-- as a part of an argument list: frozen or seen -/
def ofB (k : Bool) : Cl := if k then .clean else .mix
theorem rp_hp {g : Gh} {k : Bool} {g0 : Gh} {d : D} {v : V} (h : Val S g0 g (ofB k) d v) : Rp S (hp k g) d v := by
  cases k <;> exact h
theorem hp_le {g g' : Gh} (l : Le g g') (k : Bool) : Same (hp k g) (hp k g') := by
  cases k
  · exact l.g
  · exact l.f
theorem hp_g {g : Gh} (fg : Same g.F g.G) (k : Bool) : Same (hp k g) g.G := by
  cases k
  · exact Same.refl _
  · exact fg
/-! ### names, constants -/
theorem e_var {i : Nat} {x : Str} (hN : X.N[i]? = some x) (hv : Vis X.env.scope x) (hd : (x == ("__debug__" : Str)) = false) (hcd : (x == ("__classdict__" : Str)) = false) : PE X (.Name x pos) (rdE S B M W (ofB (!M i)) (eVar i)) := by
  refine PE.imp (pe_var hN hv hd hcd) fun r H Q ⟨g, m, j, P, E, ok, ⟨d, he, hp⟩, q, _⟩ => ?_
  cases hM : M i with
  | false =>
    obtain ⟨v, h1, h2⟩ := ok.s.fr i _ he hM
    exact ⟨v, h1, q d j g v H hp (Le.refl g) ok (by rw [hM]; exact h2)⟩
  | true =>
    obtain ⟨a, h1, h2⟩ := ok.s.ow i _ he hM
    exact ⟨_, h1, q d j g _ H hp (Le.refl g) ok (by rw [hM]; exact h2.rp ok.b.fg)⟩
/-- a constant, scalar -/
theorem e_c {v : V} {d : D} (h : PE X e (tC v)) (r : ∀ F, Rp S F d v) : PE X e (rdE S B M W .clean (eC d)) :=
  PE.imp h fun _ H Q ⟨g, m, j, P, E, ok, hf, q, _⟩ => q d j g v H hf (Le.refl g) ok (r _)

/-! ### operators by values -/
/-- φ tells the operator on data; ci: the arguments frozen or seen; co: the answer's class -/
def OpS (S : Js J) (r : R2) (φ : D → D → Option D) (ci : Bool) (co : Cl) : Prop :=
  ∀ (B : Bs) (g : Gh) (H : Hp) (j : J) (d1 d2 d : D) (v1 v2 : V) (Q : VK), OkB S B g H j → Rp S (hp ci g) d1 v1 → Rp S (hp ci g) d2 v2 → φ d1 d2 = some d →
    (∀ g' v H', Le g g' → OkB S B g' H' j → Val S g g' co d v → Q v H') → r v1 v2 H Q
def UnS (S : Js J) (r : V → Hp → VK → Prop) (φ : D → Option D) (ci : Bool) (co : Cl) : Prop :=
  ∀ (B : Bs) (g : Gh) (H : Hp) (j : J) (d1 d : D) (v1 : V) (Q : VK), OkB S B g H j → Rp S (hp ci g) d1 v1 → φ d1 = some d →
    (∀ g' v H', Le g g' → OkB S B g' H' j → Val S g g' co d v → Q v H') → r v1 H Q
theorem tOp_rd {r : R2} {φ : D → D → Option D} {ci : Bool} {co : Cl} (ho : OpS S r φ ci co) {R : St} {H : Hp} {Q : VK} (h : rdE S B M W co (eOp φ fa fb) R H Q) : tOp r (rdE S B M W (ofB ci) fa) (rdE S B M W (ofB ci) fb) R H Q := by
  obtain ⟨g, m, j, P, E, ok, hf, q, xo⟩ := h
  refine ⟨g, m, j, _, E, ok, hf, fun x j1 g1 v1 H1 p1 l1 ok1 w1 => ⟨g1, m, j1, _, E, ok1, p1, fun y j' g2 v2 H2 p2 l2 ok2 w2 => ?_, xo.le l1.f⟩, xo⟩
  obtain ⟨d, h3, p⟩ := p2
  exact ho B g2 H2 j' x y d v1 v2 Q ok2.b (rp_hp (w1.le l2)) (rp_hp w2) h3 fun g3 v H3 l3 ok3 w3 => q d j' g3 v H3 p ((l1.trans l2).trans l3) ⟨ok3, ok2.s.le l3⟩ (w3.back (l1.trans l2))
theorem e_bin {op : Operator} {r : R2} {φ : D → D → Option D} {ci : Bool} {co : Cl} (hr : OpR X (binaryOp op) r) (ho : OpS S r φ ci co) (ha : PE X a (rdE S B M W (ofB ci) fa)) (hb : PE X b (rdE S B M W (ofB ci) fb)) :
    PE X (.BinOp a op b pos) (rdE S B M W co (eOp φ fa fb)) := PE.imp (pe_op hr ha hb) fun _ _ _ h => tOp_rd ho h
theorem e_cmp {op : CmpOp} {r : R2} {φ : D → D → Option D} {ci : Bool} {co : Cl} (hr : OpR X (compareOp op) r) (ho : OpS S r φ ci co) (ha : PE X a (rdE S B M W (ofB ci) fa)) (hb : PE X b (rdE S B M W (ofB ci) fb)) (hm : behindInMarks op b = false) :
    PE X (.Compare a [op] [b] pos) (rdE S B M W co (eOp φ fa fb)) := PE.imp (pe_cmpR hr ha hb hm) fun _ _ _ h => tOp_rd ho h
theorem e_ix {r : R2} {φ : D → D → Option D} {ci : Bool} {co : Cl} (hr : IxR X r) (ho : OpS S r φ ci co) (ha : PE X a (rdE S B M W (ofB ci) fa)) (hb : PE X b (rdE S B M W (ofB ci) fb)) (hs : PlainIx b) :
    PE X (.Subscript a b pos) (rdE S B M W co (eOp φ fa fb)) := PE.imp (pe_ix hr ha hb hs) fun _ _ _ h => tOp_rd ho h
/-! ### argument lists -/
theorem a_nil {k : Bool} : PA X [] (rdA S B M W k aNil) := PA.imp pa_nil fun r H Q ⟨g, m, j, P, E, ok, hf, q, _⟩ => q [] j g [] H hf (Le.refl g) ok .nil
theorem a_cons {es : List Expr} {fr : Av J} {k : Bool} (ha : PE X e (rdE S B M W (ofB k) fa)) (hr : PA X es (rdA S B M W k fr)) (hs : starEach (e :: es) X.env = (false, eval e X.env) :: starEach es X.env) : PA X (e :: es) (rdA S B M W k (aCons fa fr)) :=
  PA.imp (pa_cons ha hr hs) fun r H Q ⟨g, m, j, P, E, ok, hf, q, xo⟩ =>
    ⟨g, m, j, _, E, ok, hf, fun x j1 g1 v1 H1 p1 l1 ok1 w1 => ⟨g1, m, _, _, E, ok1, p1, fun xs j2 g2 vs H2 p2 l2 ok2 w2 =>
      q _ _ g2 _ H2 p2 (l1.trans l2) ok2 (.cons ((rp_hp w1).mono (hp_le l2 k)) w2), xo.le l1.f⟩, xo⟩

/-! ### displays -/
theorem rp_newT {g : Gh} {k : Bool} {p : Addr} {o : Obj} {ds : List D} {vs : List V} (fg : Same g.F g.G) (n : g.G p = none) (ho : o.dict = none) (h : RpL S (hp k g) ds vs) : Val S g (if k then g.frz p (.frz o (.tup vs)) else g.see p (.frz o (.tup vs))) (ofB k) (.tup ds) (.ref p) := by
  cases k with
  | true => exact .tup (.inl ⟨o, upd_same, ho⟩) (h.mono (same_new (fg.free n)))
  | false => exact .tup (.inl ⟨o, upd_same, ho⟩) (h.mono (same_new n))
theorem e_tup {es : List Expr} {x1 : Nat} {fr : Av J} {k : Bool} (ha : PA X es (rdA S B M W k fr)) : PE X (.Tuple es x1 pos) (rdE S B M W (ofB k) (eTup fr)) :=
  PE.imp (pe_tupF ha) fun r H Q ⟨g, m, j, P, E, ok, hf, q, xo⟩ => by
    refine ⟨g, m, j, _, E, ok, hf, fun ds j1 g1 vs H1 ⟨hl, pp⟩ l1 ok1 w1 => ⟨by rw [← w1.length]; exact Nat.le_trans hl line_ok, fun p o np hdo => ?_⟩, xo⟩
    obtain ⟨n1, n2, n3, n4⟩ := ok1.b.hn np
    have l2 : Le g1 (if k then g1.frz p (.frz o (.tup vs)) else g1.see p (.frz o (.tup vs))) := by
      cases k
      · exact Le.see n2
      · exact Le.frz ok1.b.fg n2
    refine q _ _ _ _ _ pp (l1.trans l2) ⟨?_, ok1.s.le l2⟩ ((rp_newT ok1.b.fg n2 hdo w1).back l1)
    cases k
    · exact ok1.b.see _ np
    · exact ok1.b.frz _ np
/-- a list display with frozen items: fresh; with seen ones: seen -/
theorem e_lst {es : List Expr} {fr : Av J} (ha : PA X es (rdA S B M W true fr)) : PE X (.List es pos) (rdE S B M W .fresh (eLst fr)) :=
  PE.imp (pe_lst ha) fun r H Q ⟨g, m, j, P, E, ok, hf, q, xo⟩ => by
    refine ⟨g, m, j, _, E, ok, hf, fun ds j1 g1 vs H1 ⟨hl, pp⟩ l1 ok1 w1 => ⟨by rw [← w1.length]; exact Nat.le_trans hl line_ok, fun p np => ?_⟩, xo⟩
    obtain ⟨n1, n2, n3, n4⟩ := ok1.b.hn np
    have l2 : Le g1 (g1.see p (.lst vs)) := Le.see n2
    exact q _ _ _ _ _ pp (l1.trans l2) ⟨ok1.b.see _ np, ok1.s.le l2⟩ ⟨p, rfl, l1.g.free n2, n1, .inl ⟨_, vs, rfl, upd_same, w1⟩⟩
/-! ### how an operator answers -/
/-- a scalar -/
theorem ans {g : Gh} {H : Hp} {j : J} {d : D} {v : V} {Q : VK} (k : OkB S B g H j) (q : ∀ g' v H', Le g g' → OkB S B g' H' j → Val S g g' .clean d v → Q v H') (r : ∀ F, Rp S F d v) : Q v H := q g v H (Le.refl g) k (r _)
/-- a part of what was there -/
theorem ansP {g : Gh} {H : Hp} {j : J} {d : D} {v : V} {Q : VK} {k : Bool} (ok : OkB S B g H j) (q : ∀ g' v H', Le g g' → OkB S B g' H' j → Val S g g' (ofB k) d v → Q v H') (r : Rp S (hp k g) d v) : Q v H :=
  q g v H (Le.refl g) ok (by cases k <;> exact r)
/-- a new tuple -/
theorem ansT {g : Gh} {H : Hp} {j : J} {ds : List D} {vs : List V} {Q : VK} {k : Bool} (ok : OkB S B g H j) (q : ∀ g' v H', Le g g' → OkB S B g' H' j → Val S g g' (ofB k) (.tup ds) v → Q v H') (r : RpL S (hp k g) ds vs) : NewT H vs Q := fun p o np hdo => by
  obtain ⟨n1, n2, n3, n4⟩ := ok.hn np
  refine q (if k then g.frz p (.frz o (.tup vs)) else g.see p (.frz o (.tup vs))) _ _ ?_ ?_ (rp_newT ok.fg n2 hdo r)
  · cases k
    · exact Le.see n2
    · exact Le.frz ok.fg n2
  · cases k
    · exact ok.see _ np
    · exact ok.frz _ np
/-- a new list -/
def ofL (k : Bool) : Cl := if k then .fresh else .mix
theorem ansL {g : Gh} {H : Hp} {j : J} {ds : List D} {vs : List V} {Q : VK} {k : Bool} (ok : OkB S B g H j) (q : ∀ g' v H', Le g g' → OkB S B g' H' j → Val S g g' (ofL k) (.lst ds) v → Q v H') (r : RpL S (hp k g) ds vs) {p : Addr} (np : H p = none) : Q (.ref p) (upd H p (.lst vs)) := by
  obtain ⟨n1, n2, n3, n4⟩ := ok.hn np
  refine q (g.see p (.lst vs)) _ _ (Le.see n2) (ok.see _ np) ?_
  cases k with
  | true => exact ⟨p, rfl, n2, n1, .inl ⟨ds, vs, rfl, upd_same, r⟩⟩
  | false => exact .lst upd_same (r.mono (same_new n2))
/-- .. frozen at once -/
theorem ansF {g : Gh} {H : Hp} {j : J} {ds : List D} {vs : List V} {Q : VK} {k : Bool} (ok : OkB S B g H j) (q : ∀ g' v H', Le g g' → OkB S B g' H' j → Val S g g' (ofB k) (.lst ds) v → Q v H') (r : RpL S (hp k g) ds vs) {p : Addr} (np : H p = none) : Q (.ref p) (upd H p (.lst vs)) := by
  obtain ⟨n1, n2, n3, n4⟩ := ok.hn np
  cases k with
  | true => exact q (g.frz p (.lst vs)) _ _ (Le.frz ok.fg n2) (ok.frz _ np) (.lst upd_same (r.mono (same_new n1)))
  | false => exact q (g.see p (.lst vs)) _ _ (Le.see n2) (ok.see _ np) (.lst upd_same (r.mono (same_new n2)))
end
end Mp

/-! Mp3: the operators on data. -/
namespace Mp
open PySem PySem.Spec L2
variable {J : Type}

/-! ### whole numbers of a fair size -/
def BIG : Int := 10 ^ 60
def sm (i : Int) : Bool := decide (-BIG < i ∧ i < BIG)
theorem sm_iff {i : Int} : sm i = true ↔ -(10 ^ 60) < i ∧ i < 10 ^ 60 := by unfold sm BIG; simp
theorem sm_nat {i : Int} (h : sm i = true) : i.natAbs < 2 ^ 200 := by
  have h := sm_iff.mp h
  have : (10 ^ 60 : Nat) < 2 ^ 200 := by decide
  omega
theorem sm_log {i : Int} (h : sm i = true) : i.natAbs.log2 < 200 := PySem.Flt.log2_lt_of (by decide) (sm_nat h)

/-- whole numbers that may be multiplied -/
def sg (i : Int) : Bool := decide (-(10 ^ 200) < i ∧ i < 10 ^ 200)
theorem sg_iff {i : Int} : sg i = true ↔ -(10 ^ 200) < i ∧ i < 10 ^ 200 := by unfold sg; simp
theorem sg_nat {i : Int} (h : sg i = true) : i.natAbs < 2 ^ 700 := by
  have h := sg_iff.mp h
  have h2 : (10 ^ 200 : Nat) ≤ 2 ^ 700 := by decide
  exact Nat.lt_of_lt_of_le (m := 10 ^ 200) (by omega) h2
theorem sg_log {i : Int} (h : sg i = true) : i.natAbs.log2 < 700 := PySem.Flt.log2_lt_of (by decide) (sg_nat h)
theorem sg_sm {i : Int} (h : sm i = true) : sg i = true := by
  have h := sm_iff.mp h
  exact sg_iff.mpr ⟨by omega, by omega⟩
def addD : D → D → Option D
  | .int i, .int k => some (.int (i + k))
  | .str x, .str y => if x.length + y.length ≤ LINE then some (.str (x ++ y)) else none
  | .lst xs, .lst ys => if xs.length + ys.length ≤ LINE then some (.lst (xs ++ ys)) else none
  | .tup xs, .tup ys => if xs.length + ys.length ≤ LINE then some (.tup (xs ++ ys)) else none
  | _, _ => none
/-- of two lists alone -/
def addL : D → D → Option D
  | .lst xs, .lst ys => if xs.length + ys.length ≤ LINE then some (.lst (xs ++ ys)) else none
  | _, _ => none
def subD : D → D → Option D
  | .int i, .int k => some (.int (i - k))
  | _, _ => none
def rep (n : Nat) (xs : List D) : List D := (List.replicate n xs).flatten
def mulD : D → D → Option D
  | .int i, .int k => if sg i && sg k then some (.int (i * k)) else none
  | .lst xs, .int k => if decide (k ≤ 1000000) && decide (xs.length * k.toNat ≤ LINE) && decide (-1000000 ≤ k) then some (.lst (rep k.toNat xs)) else none
  | _, _ => none
def mulL : D → D → Option D
  | .lst xs, .int k => if decide (k ≤ 1000000) && decide (xs.length * k.toNat ≤ LINE) && decide (-1000000 ≤ k) then some (.lst (rep k.toNat xs)) else none
  | _, _ => none
def fdivD : D → D → Option D
  | .int i, .int k => if decide (0 < k) && sm k then some (.int (i / k)) else none
  | _, _ => none
def modD : D → D → Option D
  | .int i, .int k => if decide (0 < k) then some (.int (i % k)) else none
  | _, _ => none
def powD : D → D → Option D
  | .int i, .int k => if decide (0 ≤ k) && decide (k ≤ 1000) && decide (-(2 ^ 62) < i) && decide (i < 2 ^ 62) then some (.int (i ^ k.toNat)) else none
  | _, _ => none
def negD : D → Option D
  | .int i => some (.int (-i))
  | _ => none

section
variable {S : Js J} {B : Bs} {M : Nat → Bool} {X : Cx} {e a b c : Expr} {pos : Pos} {f fa fb fc : Ev J}
theorem RpL.nil_iff {F : Hp} {ds : List D} {vs : List V} (h : RpL S F ds vs) : ds = [] ↔ vs = [] := by
  cases h with
  | nil => simp
  | cons _ _ => simp
theorem RpL.rep {F : Hp} {ds : List D} {vs : List V} (h : RpL S F ds vs) : ∀ n, RpL S F (rep n ds) (List.replicate n vs).flatten
  | 0 => .nil
  | n + 1 => by
    unfold Mp.rep
    rw [List.replicate_succ, List.replicate_succ, List.flatten_cons, List.flatten_cons]
    exact h.append (RpL.rep h n)
theorem tup_of {F : Hp} {ds : List D} {v : V} (h : Rp S F (.tup ds) v) : ∃ a vs, v = .ref a ∧ SqF S.K F a vs ∧ RpL S F ds vs := by cases h; exact ⟨_, _, rfl, by assumption, by assumption⟩
theorem lst_of {F : Hp} {ds : List D} {v : V} (h : Rp S F (.lst ds) v) : ∃ a vs, v = .ref a ∧ F a = some (.lst vs) ∧ RpL S F ds vs := by cases h; exact ⟨_, _, rfl, by assumption, by assumption⟩
theorem int_of {F : Hp} {i : Int} {v : V} (h : Rp S F (.int i) v) : v = .int i := by cases h; rfl
theorem bl_of {F : Hp} {i : Bool} {v : V} (h : Rp S F (.bl i) v) : v = .bl i := by cases h; rfl
theorem str_of {F : Hp} {i : Str} {v : V} (h : Rp S F (.str i) v) : v = .str i := by cases h; rfl
theorem non_of {F : Hp} {v : V} (h : Rp S F .non v) : v = .non := by cases h; rfl
theorem OkB.sub {g : Gh} {H : Hp} {j : J} (k : OkB S B g H j) (ci : Bool) : Same (hp ci g) H := (hp_g k.fg ci).trans k.gh

/-- the union of the four sums -/
def rAddD (K : PySem.W.Frag) : R2 := fun x y H Q => (rI0 (fun i j => .int (i + j)) x y H Q) ∨ (∃ i j, x = .str i ∧ y = .str j ∧ i.length + j.length ≤ sizeLine ∧ Q (.str (i ++ j)) H) ∨ rCat x y H Q ∨ rCatF K x y H Q
theorem op_addD : OpR X (binaryOp .Add) (rAddD X.K) := op_add.or (op_add_str.or (op_cat.or op_catF))
theorem s_add {ci : Bool} : OpS S (rAddD S.K) addD ci (ofB ci) := by
  intro B g H j d1 d2 d v1 v2 Q ok h1 h2 e q
  unfold addD at e
  split at e
  · cases e; rw [int_of h1, int_of h2]
    exact .inl ⟨_, _, rfl, rfl, q g _ H (Le.refl g) ok (by cases ci <;> exact .int _)⟩
  · split at e
    · rename_i hl
      cases e; rw [str_of h1, str_of h2]
      exact .inr (.inl ⟨_, _, rfl, rfl, Nat.le_trans hl line_ok, q g _ H (Le.refl g) ok (by cases ci <;> exact .str _)⟩)
    · cases e
  · split at e
    · rename_i xs ys hl
      cases e
      obtain ⟨a, vs, rfl, ha, ra⟩ := lst_of h1
      obtain ⟨b, ws, rfl, hb, rb⟩ := lst_of h2
      refine .inr (.inr (.inl ⟨a, b, vs, ws, rfl, rfl, ok.sub ci _ _ ha, ok.sub ci _ _ hb, ?_, fun p np => ansF (B := B) ok q (ra.append rb) np⟩))
      rw [← ra.length, ← rb.length]; exact Nat.le_trans hl line_ok
    · cases e
  · split at e
    · rename_i xs ys hl
      cases e
      obtain ⟨a, vs, rfl, ha, ra⟩ := tup_of h1
      obtain ⟨b, ws, rfl, hb, rb⟩ := tup_of h2
      refine .inr (.inr (.inr ⟨a, b, vs, ws, rfl, rfl, sqT_same (ok.sub ci) ha.t, sqT_same (ok.sub ci) hb.t, ?_, fun z => ?_, fun z z' => ?_, fun _ _ => ansT (B := B) ok q (ra.append rb)⟩))
      · rw [← ra.length, ← rb.length]; exact Nat.le_trans hl line_ok
      · obtain rfl := ra.nil_iff.mpr z
        exact ansP (B := B) ok q h2
      · obtain rfl := rb.nil_iff.mpr z'
        rw [List.append_nil] at q
        exact ansP (B := B) ok q h1
    · cases e
  · cases e
theorem s_sub {ci : Bool} : OpS S (rI0 fun i j => .int (i - j)) subD ci .clean := by
  intro B g H j d1 d2 d v1 v2 Q ok h1 h2 e q
  unfold subD at e
  split at e
  · cases e; rw [int_of h1, int_of h2]
    exact ⟨_, _, rfl, rfl, ans (B := B) ok q fun _ => .int _⟩
  · cases e
def rMulD : R2 := fun x y H Q => rI CMulW (fun i j => .int (i * j)) x y H Q ∨ rRep x y H Q
theorem op_mulD : OpR X (binaryOp .Mult) rMulD := op_mulW.or op_rep
theorem s_mul {ci : Bool} : OpS S rMulD mulD ci (ofB ci) := by
  intro B g H j d1 d2 d v1 v2 Q ok h1 h2 e q
  unfold mulD at e
  split at e
  · split at e
    · rename_i hc
      rw [Bool.and_eq_true] at hc
      cases e; rw [int_of h1, int_of h2]
      exact .inl ⟨_, _, rfl, rfl, wide_mul (sg_nat hc.1) (sg_nat hc.2) (by decide) (by decide) (by decide), q g _ H (Le.refl g) ok (by cases ci <;> exact .int _)⟩
    · cases e
  · split at e
    · rename_i xs k hc
      simp only [Bool.and_eq_true, decide_eq_true_eq] at hc
      cases e; rw [int_of h2]
      obtain ⟨a, vs, rfl, ha, ra⟩ := lst_of h1
      refine .inr ⟨a, k, vs, rfl, rfl, ok.sub ci _ _ ha, by omega, by omega, ?_, fun p np => ansF (B := B) ok q (ra.rep _) np⟩
      rw [← ra.length]; exact Nat.le_trans hc.1.2 line_ok
    · cases e
  · cases e
theorem s_fdiv {ci : Bool} : OpS S (rI CDivW fun i j => .int (i / j)) fdivD ci .clean := by
  intro B g H j d1 d2 d v1 v2 Q ok h1 h2 e q
  unfold fdivD at e
  split at e
  · split at e
    · rename_i hc
      rw [Bool.and_eq_true, decide_eq_true_eq] at hc
      cases e; rw [int_of h1, int_of h2]
      exact ⟨_, _, rfl, rfl, wide_div hc.1 (sm_nat hc.2) (by decide) (by decide), ans (B := B) ok q fun _ => .int _⟩
    · cases e
  · cases e
theorem s_mod {ci : Bool} : OpS S (rI (fun _ j => 0 < j) fun i j => .int (i % j)) modD ci .clean := by
  intro B g H j d1 d2 d v1 v2 Q ok h1 h2 e q
  unfold modD at e
  split at e
  · split at e
    · rename_i hc
      rw [decide_eq_true_eq] at hc
      cases e; rw [int_of h1, int_of h2]
      exact ⟨_, _, rfl, rfl, hc, ans (B := B) ok q fun _ => .int _⟩
    · cases e
  · cases e
theorem s_pow {ci : Bool} : OpS S (rI CPow fun i j => .int (i ^ j.toNat)) powD ci .clean := by
  intro B g H j d1 d2 d v1 v2 Q ok h1 h2 e q
  unfold powD at e
  split at e
  · split at e
    · rename_i hc
      simp only [Bool.and_eq_true, decide_eq_true_eq] at hc
      cases e; rw [int_of h1, int_of h2]
      exact ⟨_, _, rfl, rfl, ⟨hc.1.1.1, by omega, by omega⟩, ans (B := B) ok q fun _ => .int _⟩
    · cases e
  · cases e
/-! ### comparisons of ints -/
def cmpD (p : Int → Int → Bool) : D → D → Option D
  | .int i, .int k => some (.bl (p i k))
  | _, _ => none
theorem s_cmp {p : Int → Int → Bool} {ci : Bool} : OpS S (rI0 fun i j => .bl (p i j)) (cmpD p) ci .clean := by
  intro B g H j d1 d2 d v1 v2 Q ok h1 h2 e q
  unfold cmpD at e
  split at e
  · cases e; rw [int_of h1, int_of h2]
    exact ⟨_, _, rfl, rfl, ans (B := B) ok q fun _ => .bl _⟩
  · cases e
/-- is None -/
def isND : D → D → Option D
  | .non, .non => some (.bl true)
  | .jar, _ => none
  | _, .non => some (.bl false)
  | _, _ => none
def notND : D → D → Option D
  | .non, .non => some (.bl false)
  | .jar, _ => none
  | _, .non => some (.bl true)
  | _, _ => none
theorem ne_non {F : Hp} {d : D} {v : V} (h : Rp S F d v) (hd : d ≠ .non) (hj : d ≠ .jar) : v ≠ .non := by
  intro e; subst e
  generalize hv : V.non = v at h
  cases h <;> first | exact hd rfl | exact hj rfl | cases hv
theorem s_isN {ci : Bool} : OpS S (fun x y H Q => y = .non ∧ Q (.bl (decide (x = .non))) H) isND ci .clean := by
  intro B g H j d1 d2 d v1 v2 Q ok h1 h2 e q
  unfold isND at e
  split at e
  · cases e; rw [non_of h1, non_of h2]
    exact ⟨rfl, ans (B := B) ok q fun _ => .bl _⟩
  · cases e
  · rename_i _ hn hj
    cases e; rw [non_of h2]
    refine ⟨rfl, ?_⟩
    rw [decide_eq_false (ne_non h1 hn hj)]
    exact ans (B := B) ok q fun _ => .bl _
  · cases e
end

/-! ### data as the model's own -/
mutual
def py : D → Option PyData
  | .non => some .none
  | .bl b => some (.bool b)
  | .int i => some (.int i)
  | .str x => some (.str x)
  | .tup xs => match pyL xs with | some ys => some (.tuple ys) | none => none
  | .lst xs => match pyL xs with | some ys => some (.list ys) | none => none
  | .dct kvs => match pyK kvs with | some ys => some (.dict ys) | none => none
  | _ => none
def pyL : List D → Option (List PyData)
  | [] => some []
  | x :: xs => match py x, pyL xs with | some y, some ys => some (y :: ys) | _, _ => none
def pyK : List (Key × D) → Option (List (PyData × PyData))
  | [] => some []
  | (k, x) :: xs => match py x, pyK xs with | some y, some ys => some ((match k with | .inl i => .int i | .inr s => .str s, y) :: ys) | _, _ => none
end
section
variable {S : Js J} {F : Hp}
mutual
theorem dp_of : ∀ {d : D} {v : V} {p : PyData}, Rp S F d v → py d = some p → p.hasDict = false → Dp S.K F v p
  | _, _, _, .non, e, _ => by unfold py at e; cases e; exact .non
  | _, _, _, .bl b, e, _ => by unfold py at e; cases e; exact .bl b
  | _, _, _, .int b, e, _ => by unfold py at e; cases e; exact .int b
  | _, _, _, .str b, e, _ => by unfold py at e; cases e; exact .str b
  | _, _, _, .tup h t, e, n => by
    unfold py at e
    split at e
    · cases e
      exact .tup h.t (dpl_of t (by assumption) (by simpa [PyData.hasDict] using n))
    · cases e
  | _, _, _, .lst h t, e, n => by
    unfold py at e
    split at e
    · cases e
      exact .lst (.of h) (dpl_of t (by assumption) (by simpa [PyData.hasDict] using n))
    · cases e
  | _, _, _, .dct h l t, e, n => by
    unfold py at e
    split at e
    · cases e
      simp [PyData.hasDict] at n
    · cases e
  | _, _, _, .jar, e, _ => by unfold py at e; cases e
  | _, _, _, .ins _ _ _, e, _ => by unfold py at e; cases e
theorem dpl_of : ∀ {ds : List D} {vs : List V} {ps : List PyData}, RpL S F ds vs → pyL ds = some ps → PyData.hasDictAll ps = false → DpAll S.K F vs ps
  | _, _, _, .nil, e, _ => by unfold pyL at e; cases e; exact .nil
  | _, _, _, .cons h t, e, n => by
    unfold pyL at e
    split at e
    · cases e
      simp only [PyData.hasDictAll, Bool.or_eq_false_iff] at n
      exact .cons (dp_of h (by assumption) n.1) (dpl_of t (by assumption) n.2)
    · cases e
end
end
mutual
theorem Dp_mono {K : PySem.W.Frag} {F G : Hp} (s : Same F G) : ∀ {p : PyData} {v : V}, Dp K F v p → Dp K G v p
  | _, _, .non => .non
  | _, _, .bl b => .bl b
  | _, _, .int b => .int b
  | _, _, .str b => .str b
  | _, _, .lst h t => .lst (sqL_same s h) (DpAll_mono s t)
  | _, _, .tup h t => .tup (sqT_same s h) (DpAll_mono s t)
theorem DpAll_mono {K : PySem.W.Frag} {F G : Hp} (s : Same F G) : ∀ {p : List PyData} {v : List V}, DpAll K F v p → DpAll K G v p
  | _, _, .nil => .nil
  | _, _, .cons h t => .cons (Dp_mono s h) (DpAll_mono s t)
end

/-- == of data without dicts -/
def eqP (x y : D) : Option Bool := match py x, py y with
  | some p, some q => if SeqAt.shaped p && SeqAt.shaped q then some (PyData.eqv p q) else none
  | _, _ => none
def eqB : D → D → Option Bool
  | .int i, .int k => some (decide (i = k))
  | .str i, .str k => some (decide (i = k))
  | .bl i, .bl k => some (decide (i = k))
  | x, y => eqP x y
def eqD (x y : D) : Option D := match eqB x y with | some b => some (.bl b) | none => none
def neD (x y : D) : Option D := match eqB x y with | some b => some (.bl (!b)) | none => none
theorem noDict {p : PyData} (h : SeqAt.shaped p = true) : p.hasDict = false := PyData.hasDict_of_canLay _ (SeqAt.canLay_of_shaped h)
def rEqE (K : PySem.W.Frag) : R2 := fun x y H Q => rEq x y H Q ∨ rEqD K x y H Q
def rNeE (K : PySem.W.Frag) : R2 := fun x y H Q => rNe x y H Q ∨ rNeD K x y H Q
section
variable {S : Js J} {X : Cx}
theorem op_eqE (hu : X.A.units + 64 < cLine) : OpR X (compareOp .Eq) (rEqE X.K) := op_eq.or (op_eqD hu)
theorem op_neE (hu : X.A.units + 64 < cLine) : OpR X (compareOp .NotEq) (rNeE X.K) := op_ne.or (op_neD hu)
/-- what is known of two things that are compared -/
theorem eqB_cases {F : Hp} {d1 d2 : D} {v1 v2 : V} {b : Bool} (h1 : Rp S F d1 v1) (h2 : Rp S F d2 v2) (e : eqB d1 d2 = some b) : (scal v1 v2 = true ∧ decide (v1 = v2) = b) ∨ ∃ p q, Dp S.K F v1 p ∧ Dp S.K F v2 q ∧ SeqAt.shaped p = true ∧ SeqAt.shaped q = true ∧ PyData.eqv p q = b := by
  unfold eqB at e
  split at e
  · cases e
    rw [int_of h1, int_of h2]
    exact .inl ⟨rfl, by rw [Bool.eq_iff_iff]; simp⟩
  · cases e
    rw [str_of h1, str_of h2]
    exact .inl ⟨rfl, by rw [Bool.eq_iff_iff]; simp⟩
  · cases e
    rw [bl_of h1, bl_of h2]
    exact .inl ⟨rfl, by rw [Bool.eq_iff_iff]; simp⟩
  · unfold eqP at e
    split at e
    · split at e
      · rename_i p q' hp hq hs
        rw [Bool.and_eq_true] at hs
        cases e
        exact .inr ⟨p, q', dp_of h1 hp (noDict hs.1), dp_of h2 hq (noDict hs.2), hs.1, hs.2, rfl⟩
      · cases e
    · cases e
theorem s_eq {ci : Bool} : OpS S (rEqE S.K) eqD ci .clean := by
  intro B g H j d1 d2 d v1 v2 Q ok h1 h2 e q
  unfold eqD at e
  split at e
  · rename_i b he
    cases e
    rcases eqB_cases h1 h2 he with ⟨c1, c2⟩ | ⟨p, q', c1, c2, c3, c4, c5⟩
    · exact .inl ⟨c1, by rw [c2]; exact ans (B := B) ok q fun _ => .bl _⟩
    · exact .inr ⟨p, q', Dp_mono (ok.sub ci) c1, Dp_mono (ok.sub ci) c2, c3, c4, by rw [c5]; exact ans (B := B) ok q fun _ => .bl _⟩
  · cases e
theorem s_ne {ci : Bool} : OpS S (rNeE S.K) neD ci .clean := by
  intro B g H j d1 d2 d v1 v2 Q ok h1 h2 e q
  unfold neD at e
  split at e
  · rename_i b he
    cases e
    rcases eqB_cases h1 h2 he with ⟨c1, c2⟩ | ⟨p, q', c1, c2, c3, c4, c5⟩
    · exact .inl ⟨c1, by rw [c2]; exact ans (B := B) ok q fun _ => .bl _⟩
    · exact .inr ⟨p, q', Dp_mono (ok.sub ci) c1, Dp_mono (ok.sub ci) c2, c3, c4, by rw [c5]; exact ans (B := B) ok q fun _ => .bl _⟩
  · cases e
/-! ### items -/
def idxD : D → D → Option D
  | .lst xs, .int i => atI xs i
  | .tup xs, .int i => atI xs i
  | .str z, .int i => if z.length ≤ LINE then (atI z.cps.toList i).map fun c => .str ⟨#[c]⟩ else none
  | _, _ => none
theorem RpL.atI {F : Hp} {ds : List D} {vs : List V} {i : Int} {d : D} (h : RpL S F ds vs) (e : L2.atI ds i = some d) : ∃ v, L2.atI vs i = some v ∧ Rp S F d v := by
  unfold L2.atI at e ⊢
  rw [← h.length]
  cases q : ixN ds.length i with
  | none => rw [q] at e; cases e
  | some k =>
    rw [q] at e
    exact h.get e
theorem s_idx {ci : Bool} : OpS S (rIx S.K) idxD ci (ofB ci) := by
  intro B g H j d1 d2 d v1 v2 Q ok h1 h2 e q
  unfold idxD at e
  split at e
  · rw [int_of h2]
    obtain ⟨a, vs, rfl, ha, ra⟩ := lst_of h1
    obtain ⟨v, e1, r1⟩ := ra.atI e
    exact .inl ⟨a, vs, _, v, rfl, rfl, .of (ok.sub ci _ _ ha), e1, ansP (B := B) ok q r1⟩
  · rw [int_of h2]
    obtain ⟨a, vs, rfl, ha, ra⟩ := tup_of h1
    obtain ⟨v, e1, r1⟩ := ra.atI e
    exact .inr (.inl ⟨a, vs, _, v, rfl, rfl, sqT_same (ok.sub ci) ha.t, e1, ansP (B := B) ok q r1⟩)
  · split at e
    · rename_i z i hl
      rw [int_of h2, str_of h1]
      cases hc : L2.atI z.cps.toList i with
      | none => rw [hc] at e; cases e
      | some c =>
        rw [hc] at e
        cases e
        exact .inr (.inr ⟨z, i, c, rfl, rfl, Nat.le_trans hl line_ok, hc, q g _ H (Le.refl g) ok (by cases ci <;> exact .str _)⟩)
    · cases e
  · cases e
end
end Mp

/-! MpR: repr of data. -/
namespace Mp
open PySem PySem.Spec PyProof.Rows L2
/-! ### repr of data -/
section
variable {J : Type} {S : Js J} {X : Cx} {pins : List (Addr × Obj)} {σ : L2.St} {H G : Hp} {s : Shared}
theorem pairs_keys {P : Program} {w : World} : ∀ {es : List DictEntry} {kvs : List (Key × Value)} {kds : List (Key × D)} {ps : List (PyData × PyData)}, PySem.Pairs (mixKind P w) es kvs → kds.map Prod.fst = kvs.map Prod.fst → pyK kds = some ps → ∀ h : Heap, ReadsAll h (es.map (·.key)) (ps.map (·.1)) [] := by
  intro es kvs kds ps hp
  induction hp generalizing kds ps with
  | nil =>
    intro hk e h
    cases kds with
    | nil => unfold pyK at e; cases e; exact .nil
    | cons _ _ => simp at hk
  | cons h1 h2 h3 ih =>
    intro hk e h
    cases kds with
    | nil => simp at hk
    | cons kd kds =>
      obtain ⟨k, d⟩ := kd
      simp only [List.map_cons, List.cons.injEq] at hk
      unfold pyK at e
      split at e
      · cases e
        have := ih hk.2 (by assumption) h
        rw [List.map_cons, List.map_cons]
        have e1 : k = _ := hk.1
        subst e1
        refine ReadsAll.cons (as := []) (bs := []) ?_ this
        rcases keyIs_shape h1 with ⟨i, t, e2, e3⟩ | ⟨x, t, e2, e3⟩
        · rw [e2, e3]; exact .int i t
        · rw [e2, e3]; exact .str x t
      · cases e

theorem pairs_vals {P : Program} {w : World} {kvs : List (Key × V)} {us : List (Key × Value)} {es : List DictEntry} (hp : PySem.Pairs (mixKind P w) es us) (r : KV kvs us) : Vals (kvs.map Prod.snd) (es.map (·.val)) ∧ kvs.map Prod.fst = us.map Prod.fst := by
  induction hp generalizing kvs with
  | nil => cases r; exact ⟨.nil, rfl⟩
  | cons h1 h2 h3 ih =>
    cases r with
    | cons r1 r2 =>
      obtain ⟨i1, i2⟩ := ih r2
      rw [List.map_cons, List.map_cons, List.map_cons, List.map_cons, i2, r1.1, h2]
      exact ⟨.cons r1.2 i1, rfl⟩
theorem pyK_vals : ∀ {kds : List (Key × D)} {ps : List (PyData × PyData)}, pyK kds = some ps → pyL (kds.map Prod.snd) = some (ps.map (·.2))
  | [], _, e => by unfold pyK at e; cases e; rfl
  | (k, d) :: kds, _, e => by
    unfold pyK at e
    split at e
    · rename_i h1 h2
      cases e
      have := pyK_vals h2
      rw [List.map_cons]
      unfold pyL
      rw [h1, this]
      rfl
    · cases e
def NoSm (as : List Addr) : Prop := sysModules ∉ as
theorem noSm_at {H : Hp} (sm : ∃ o u, H sysModules = some (.frz o u)) {a : Addr} {o : HO} (h : H a = some o) (hn : ∀ x y, o ≠ .frz x y) : a ≠ sysModules := by
  obtain ⟨o1, u1, e⟩ := sm
  intro z
  rw [z, e] at h
  cases h
  exact hn _ _ rfl
mutual
theorem reads_of (I : Inv X pins σ H s) (hK : X.K = S.K) (gh : Same G H) (sm : ∃ o u, H sysModules = some (.frz o u)) : ∀ {d : D} {v : V} {p : PyData} {u : Value}, Rp S G d v → py d = some p → RelV v u → ∃ as, Reads s.heap u p as ∧ sysModules ∉ as
  | _, _, _, _, .non, e, r => by unfold py at e; cases e; cases r; exact ⟨_, .none, by simp⟩
  | _, _, _, _, .bl b, e, r => by unfold py at e; cases e; cases r; exact ⟨_, .bool b, by simp⟩
  | _, _, _, _, .int b, e, r => by unfold py at e; cases e; obtain ⟨t, rfl⟩ := r; exact ⟨_, .int b t, by simp⟩
  | _, _, _, _, .str b, e, r => by unfold py at e; cases e; obtain ⟨t, rfl⟩ := r; exact ⟨_, .str b t, by simp⟩
  | _, _, _, _, .tup h t, e, r => by
    unfold py at e
    split at e
    · cases e
      cases r
      obtain ⟨its, rv, ⟨o, ho, hc, n, hd⟩, _⟩ := I.tuple (by rw [hK]; exact sqT_same gh h.t)
      obtain ⟨as, h1, h2⟩ := readsL_of I hK gh sm t (by assumption) rv
      exact ⟨_, .tuple ho hc hd h1, h2⟩
    · cases e
  | _, _, _, _, .lst h t, e, r => by
    unfold py at e
    split at e
    · cases e
      cases r
      obtain ⟨its, rv, ⟨o, n, ho, hc, _, hd⟩, _⟩ := I.list (SqL.of (gh _ _ h))
      obtain ⟨as, h1, h2⟩ := readsL_of I hK gh sm t (by assumption) rv
      refine ⟨_, .list ho hc hd h1, ?_⟩
      simp only [List.mem_cons, not_or]
      exact ⟨(noSm_at sm (gh _ _ h) (by intro x y z; cases z)).symm, h2⟩
    · cases e
  | _, _, _, _, .dct h l t, e, r => by
    unfold py at e
    split at e
    · rename_i ps hps
      cases e
      cases r
      obtain ⟨_, _, vs, kv, o, es, ep, ho, hx, hd, _, hp, _⟩ := dk_of I.hok (gh _ _ h)
      obtain ⟨q1, q2⟩ := pairs_vals hp kv
      obtain ⟨as, h1, h2⟩ := readsL_of I hK gh sm t (pyK_vals hps) q1
      refine ⟨_, .dict ho hx.1 hd (pairs_keys hp (l.trans q2) hps s.heap) h1, ?_⟩
      simp only [List.cons_append, List.nil_append, List.mem_cons, not_or]
      exact ⟨(noSm_at sm (gh _ _ h) (by intro x y z; cases z)).symm, h2⟩
    · cases e
  | _, _, _, _, .jar, e, r => by unfold py at e; cases e
  | _, _, _, _, .ins _ _ _, e, r => by unfold py at e; cases e
theorem readsL_of (I : Inv X pins σ H s) (hK : X.K = S.K) (gh : Same G H) (sm : ∃ o u, H sysModules = some (.frz o u)) : ∀ {ds : List D} {vs : List V} {ps : List PyData} {us : List Value}, RpL S G ds vs → pyL ds = some ps → Vals vs us → ∃ as, ReadsAll s.heap us ps as ∧ sysModules ∉ as
  | _, _, _, _, .nil, e, r => by unfold pyL at e; cases e; cases r; exact ⟨_, .nil, by simp⟩
  | _, _, _, _, .cons h t, e, r => by
    unfold pyL at e
    split at e
    · cases e
      cases r with
      | cons r1 r2 =>
        obtain ⟨as, h1, h2⟩ := reads_of I hK gh sm h (by assumption) r1
        obtain ⟨bs, h3, h4⟩ := readsL_of I hK gh sm t (by assumption) r2
        exact ⟨_, .cons h1 h3, by simp only [List.mem_append, not_or]; exact ⟨h2, h4⟩⟩
    · cases e
end
/-- repr(x), x data -/
def reprD (d : D) : Option Str := match py d with
  | some p => if p.showable && decide (p.depth ≤ 60) && decide (p.shown.length ≤ LINE) then some p.shown else none
  | none => none
def rRepr (S : Js J) : List V → Hp → VK → Prop := fun vs H Q => ∃ G d v x, vs = [v] ∧ Same G H ∧ (∃ o u, H sysModules = some (.frz o u)) ∧ Rp S G d v ∧ reprD d = some x ∧ Q (.str x) H
theorem cr_repr (hK : X.K = S.K) (hg : X.A.guards = some []) (hu : X.A.units + 64 < cLine) : CallR X (.builtin "repr") (rRepr S) := by
  intro pins s σ H vs us Q I r h
  obtain ⟨G, d, v, x, rfl, gh, sm, hr, e, q⟩ := h
  unfold reprD at e
  split at e
  · rename_i p hp
    split at e
    · rename_i hc
      simp only [Bool.and_eq_true, decide_eq_true_eq] at hc
      cases e
      have hsz : p.shown.length ≤ sizeLine := Nat.le_trans hc.2 line_ok
      obtain ⟨u, rfl, r1⟩ := vals1 r
      obtain ⟨as, h1, h2⟩ := reads_of I hK gh sm hr hp r1
      have fin : ∀ (h' : Heap) (t : Tok) (tk : Nat), (∀ b o, s.heap.get? b = some o → h'.get? b = some o) → EP X pins σ Q (.str p.shown t) { s with heap := h', toks := tk } := fun h' t tk hk => ⟨.str _, H, I.kept hk, ⟨t, rfl⟩, q⟩
      cases h1 with
      | none => exact PySem.P.repr_of_none (fin s.heap _ _ fun _ _ z => z)
      | bool b => exact PySem.P.repr_of_bool (fin s.heap _ _ fun _ _ z => z)
      | int i t => exact PySem.P.repr_of_int (by simpa [PyData.showable] using hc.1.1) (fin s.heap _ _ fun _ _ z => z)
      | str y t => exact PySem.P.repr_of_str (fin s.heap _ _ fun _ _ z => z) hsz
      | list a1 a2 a3 a4 => exact repr_of_reads' (.list a1 a2 a3 a4) hc.1.1 (fun _ => h2) hg (by omega) (fun _ _ z => z) fin hsz
      | tuple a1 a2 a3 a4 => exact repr_of_reads' (.tuple a1 a2 a3 a4) hc.1.1 (fun _ => h2) hg (by omega) (fun _ _ z => z) fin hsz
      | dict a1 a2 a3 a4 a5 => exact repr_of_reads' (.dict a1 a2 a3 a4 a5) hc.1.1 (fun _ => h2) hg (by omega) (fun _ _ z => z) fin hsz
    · cases e
  · cases e
end
end Mp

/-! Mp4: built-ins, slices. -/
namespace Mp
open PySem PySem.Spec L2
variable {J : Type}

/-! ### built-in calls by data -/
def CallS (S : Js J) (r : List V → Hp → VK → Prop) (φ : List D → Option D) (ci : Bool) (co : Cl) : Prop :=
  ∀ (B : Bs) (g : Gh) (H : Hp) (j : J) (ds : List D) (d : D) (vs : List V) (Q : VK), OkB S B g H j → RpL S (hp ci g) ds vs → φ ds = some d →
    (∀ g' v H', Le g g' → OkB S B g' H' j → Val S g g' co d v → Q v H') → r vs H Q
section
variable {S : Js J} {B : Bs} {M : Nat → Bool} {W : WX} {X : Cx} {e a b c : Expr} {es : List Expr} {pos p : Pos} {f fa fb fc : Ev J} {fr : Av J} {x : Str} {id T : String} {r : List V → Hp → VK → Prop} {φ : List D → Option D} {ci : Bool} {co : Cl}
theorem tCB_rd (ho : CallS S r φ ci co) {R : St} {H : Hp} {Q : VK} (h : rdE S B M W co (eB φ fr) R H Q) : tCB r (rdA S B M W ci fr) R H Q := by
  obtain ⟨g, m, j, P, E, ok, hf, q, xo⟩ := h
  exact ⟨g, m, j, _, E, ok, hf, fun xs j' g1 v1 H1 ⟨d, h3, p⟩ l1 ok1 w1 => ho B g1 H1 j' xs d v1 Q ok1.b w1 h3 fun g3 v H3 l3 ok3 w3 => q d j' g3 v H3 p (l1.trans l3) ⟨ok3, ok1.s.le l3⟩ (w3.back l1), xo⟩
theorem e_callB (hc : CallR X (.builtin id) r) (ho : CallS S r φ ci co) (hg : Gl X x) (hm : X.mg x = none) (hv : bootBuiltins x = some (.builtin id)) (ha : PA X (e :: es) (rdA S B M W ci fr)) (hn : x ≠ "__name__") (hdb : (x == ("__debug__" : Str)) = false)
    (he : starEach (e :: es) X.env = (false, eval e X.env) :: starEach es X.env) (hpl : (backTo pos (starEach es X.env)).any (·.1) = false) : PE X (.Call (.Name x p) (e :: es) [] pos) (rdE S B M W co (eB φ fr)) :=
  PE.imp (pe_callB hc hg hm hv ha hn hdb he hpl) fun _ _ _ h => tCB_rd ho h
theorem e_callTy (hc : CallR X (.type T) r) (ho : CallS S r φ ci co) (hg : Gl X x) (hm : X.mg x = none) (hv : bootBuiltins x = some (.type T)) (ha : PA X (e :: es) (rdA S B M W ci fr)) (hn : x ≠ "__name__") (hdb : (x == ("__debug__" : Str)) = false)
    (he : starEach (e :: es) X.env = (false, eval e X.env) :: starEach es X.env) (hpl : (backTo pos (starEach es X.env)).any (·.1) = false) : PE X (.Call (.Name x p) (e :: es) [] pos) (rdE S B M W co (eB φ fr)) :=
  PE.imp (pe_callTy hc hg hm hv ha hn hdb he hpl) fun _ _ _ h => tCB_rd ho h

theorem one_of {F : Hp} {d : D} {vs : List V} (h : RpL S F [d] vs) : ∃ v, vs = [v] ∧ Rp S F d v := by
  cases h with
  | cons h t => cases t; exact ⟨_, rfl, h⟩
theorem two_of {F : Hp} {d d' : D} {vs : List V} (h : RpL S F [d, d'] vs) : ∃ v v', vs = [v, v'] ∧ Rp S F d v ∧ Rp S F d' v' := by
  cases h with
  | cons h t => cases t with | cons h' t => cases t; exact ⟨_, _, rfl, h, h'⟩
end

/-- the ints of a list of data -/
def ints? : List D → Option (List Int)
  | [] => some []
  | .int i :: xs => match ints? xs with | some ns => some (i :: ns) | none => none
  | _ :: _ => none
theorem ints?_map : ∀ ns : List Int, ints? (ns.map D.int) = some ns
  | [] => rfl
  | n :: ns => by simp only [List.map_cons, ints?, ints?_map ns]
theorem ints?_some : ∀ {ds : List D} {ns : List Int}, ints? ds = some ns → ds = ns.map D.int
  | [], _, e => by cases e; rfl
  | .int i :: xs, _, e => by
    unfold ints? at e
    split at e
    · rename_i h
      cases e
      rw [ints?_some h]; rfl
    · cases e
  | .non :: _, _, e => by cases e
  | .bl _ :: _, _, e => by cases e
  | .str _ :: _, _, e => by cases e
  | .tup _ :: _, _, e => by cases e
  | .lst _ :: _, _, e => by cases e
  | .dct _ :: _, _, e => by cases e
  | .jar :: _, _, e => by cases e
  | .ins _ _ :: _, _, e => by cases e
def bls? : List D → Option (List Bool)
  | [] => some []
  | .bl i :: xs => match bls? xs with | some ns => some (i :: ns) | none => none
  | _ :: _ => none
theorem bls?_map : ∀ ns : List Bool, bls? (ns.map D.bl) = some ns
  | [] => rfl
  | n :: ns => by simp only [List.map_cons, bls?, bls?_map ns]
theorem bls?_some : ∀ {ds : List D} {ns : List Bool}, bls? ds = some ns → ds = ns.map D.bl
  | [], _, e => by cases e; rfl
  | .bl i :: xs, _, e => by
    unfold bls? at e
    split at e
    · rename_i h
      cases e
      rw [bls?_some h]; rfl
    · cases e
  | .non :: _, _, e => by cases e
  | .int _ :: _, _, e => by cases e
  | .str _ :: _, _, e => by cases e
  | .tup _ :: _, _, e => by cases e
  | .lst _ :: _, _, e => by cases e
  | .dct _ :: _, _, e => by cases e
  | .jar :: _, _, e => by cases e
  | .ins _ _ :: _, _, e => by cases e

def lenB : List D → Option D
  | [.lst xs] => some (.int xs.length)
  | [.tup xs] => some (.int xs.length)
  | [.dct xs] => some (.int xs.length)
  | [.str x] => if x.length ≤ LINE then some (.int x.length) else none
  | _ => none
def sumB : List D → Option D
  | [.lst xs] => match ints? xs with | some ns => some (.int ns.sum) | none => none
  | [.tup xs] => match ints? xs with | some ns => some (.int ns.sum) | none => none
  | _ => none
def tupleB : List D → Option D
  | [.lst xs] => some (.tup xs)
  | [.tup xs] => some (.tup xs)
  | _ => none
def listB : List D → Option D
  | [.lst xs] => some (.lst xs)
  | [.tup xs] => some (.lst xs)
  | _ => none
def absB : List D → Option D
  | [.int i] => some (.int (if i < 0 then -i else i))
  | _ => none
/-- the greatest of a list that is not empty -/
def maxL : Int → List Int → Int
  | a, [] => a
  | a, b :: r => maxL (if a < b then b else a) r
def minL : Int → List Int → Int
  | a, [] => a
  | a, b :: r => minL (if b < a then b else a) r
theorem maxL_spec : ∀ (r : List Int) (a : Int), maxL a r ∈ a :: r ∧ ∀ y ∈ a :: r, y ≤ maxL a r
  | [], a => ⟨List.mem_singleton.mpr rfl, fun y h => by rw [List.mem_singleton.mp h]; exact Int.le_refl _⟩
  | b :: r, a => by
    obtain ⟨h1, h2⟩ := maxL_spec r (if a < b then b else a)
    unfold maxL
    have h3 := h2 _ List.mem_cons_self
    refine ⟨?_, fun y hy => ?_⟩
    · rcases List.mem_cons.mp h1 with h | h
      · rw [h]; split <;> simp
      · exact List.mem_cons_of_mem _ (List.mem_cons_of_mem _ h)
    · rcases List.mem_cons.mp hy with rfl | hy
      · exact Int.le_trans (by split <;> omega) h3
      · rcases List.mem_cons.mp hy with rfl | hy
        · exact Int.le_trans (by split <;> omega) h3
        · exact h2 y (List.mem_cons_of_mem _ hy)
def maxB : List D → Option D
  | [.int i, .int k] => some (.int (if k > i then k else i))
  | [.lst xs] => match ints? xs with | some (a :: r) => some (.int (maxL a r)) | _ => none
  | _ => none
def minB : List D → Option D
  | [.int i, .int k] => some (.int (if k < i then k else i))
  | [.lst xs] => match ints? xs with | some (a :: r) => some (.int (minL a r)) | _ => none
  | _ => none
def intB : List D → Option D
  | [.int i] => some (.int i)
  | [.bl k] => some (.int (if k then 1 else 0))
  | _ => none
def strB : List D → Option D
  | [.int i] => if sm i then some (.str (toString i)) else none
  | _ => none
def reprB : List D → Option D
  | [d] => match reprD d with | some x => some (.str x) | none => none
  | _ => none
def allB : List D → Option D
  | [.lst xs] => match bls? xs with | some bs => some (.bl (bs.all id)) | none => none
  | _ => none
def isort (ns : List Int) : List Int := ns.mergeSort (fun a b => decide (a ≤ b))
theorem isort_perm (ns : List Int) : (isort ns).Perm ns := List.mergeSort_perm _ _
theorem isort_sorted (ns : List Int) : (isort ns).Pairwise (· ≤ ·) := by
  have h := List.pairwise_mergeSort (le := fun a b : Int => decide (a ≤ b)) (fun a b c h1 h2 => by simp at *; omega) (fun a b => by simp; omega) ns
  exact h.imp fun {a b} q => by simpa using q
theorem isort_unique {ns ns' : List Int} (p : ns'.Perm ns) (s : ns'.Pairwise (· ≤ ·)) : ns' = isort ns := PySem.W.ksm_same (p.trans (isort_perm ns).symm) s (isort_sorted ns)
def sortedB : List D → Option D
  | [.lst xs] => match ints? xs with | some ns => some (.lst ((isort ns).map D.int)) | none => none
  | _ => none
section
variable {S : Js J} {B : Bs} {M : Nat → Bool} {X : Cx} {ci : Bool}
def rLenD (K : PySem.W.Frag) : List V → Hp → VK → Prop := fun xs H Q => (∃ x n, xs = [x] ∧ LenV K x H n ∧ Q (.int n) H) ∨ (∃ a kvs, xs = [V.ref a] ∧ H a = some (.dK kvs) ∧ Q (.int kvs.length) H)
theorem cr_lenD : CallR X (.builtin "len") (rLenD X.K) := call_len.or call_lenD
theorem s_len : CallS S (rLenD S.K) lenB ci .clean := by
  intro B g H j ds d vs Q ok h e q
  unfold lenB at e
  split at e
  · cases e
    obtain ⟨v, rfl, k⟩ := one_of h
    obtain ⟨a, vs, rfl, ha, ra⟩ := lst_of k
    exact .inl ⟨_, vs.length, rfl, .inl ⟨vs, .of (ok.sub ci _ _ ha), rfl⟩, by rw [← ra.length]; exact ans (B := B) ok q fun _ => .int _⟩
  · cases e
    obtain ⟨v, rfl, k⟩ := one_of h
    obtain ⟨a, vs, rfl, ha, ra⟩ := tup_of k
    exact .inl ⟨_, vs.length, rfl, .inr ⟨vs, sqT_same (ok.sub ci) ha.t, rfl⟩, by rw [← ra.length]; exact ans (B := B) ok q fun _ => .int _⟩
  · cases e
    obtain ⟨v, rfl, k⟩ := one_of h
    cases k with
    | dct ha hk hr =>
      refine .inr ⟨_, _, rfl, ok.sub ci _ _ ha, ?_⟩
      have := congrArg List.length hk
      rw [List.length_map, List.length_map] at this
      rw [← this]
      exact ans (B := B) ok q fun _ => .int _
  · split at e
    · rename_i hl
      cases e
      obtain ⟨v, rfl, k⟩ := one_of h
      rw [str_of k]
      exact .inl ⟨_, _, rfl, ⟨Nat.le_trans hl line_ok, rfl⟩, ans (B := B) ok q fun _ => .int _⟩
    · cases e
  · cases e
def rSumD (K : PySem.W.Frag) : List V → Hp → VK → Prop := fun xs H Q => rSum K xs H Q ∨ rSumT K xs H Q
theorem cr_sumD (hc : X.calm = true) : CallR X (.builtin "sum") (rSumD X.K) := (cr_sum hc).or (cr_sumT hc)
theorem s_sum : CallS S (rSumD S.K) sumB ci .clean := by
  intro B g H j ds d vs Q ok h e q
  unfold sumB at e
  split at e
  · split at e
    · rename_i ns hn
      cases e
      obtain rfl := ints?_some hn
      obtain ⟨v, rfl, k⟩ := one_of h
      obtain ⟨a, vs, rfl, ha, ra⟩ := lst_of k
      obtain rfl := ra.of_ints
      exact .inl ⟨a, ns, rfl, .of (ok.sub ci _ _ ha), ans (B := B) ok q fun _ => .int _⟩
    · cases e
  · split at e
    · rename_i ns hn
      cases e
      obtain rfl := ints?_some hn
      obtain ⟨v, rfl, k⟩ := one_of h
      obtain ⟨a, vs, rfl, ha, ra⟩ := tup_of k
      obtain rfl := ra.of_ints
      exact .inr ⟨a, ns, rfl, sqT_same (ok.sub ci) ha.t, ans (B := B) ok q fun _ => .int _⟩
    · cases e
  · cases e
theorem s_tuple : CallS S (fun xs H Q => ∃ p ys, xs = [.ref p] ∧ ((SqL S.K H p ys ∧ NewT H ys Q) ∨ (SqT S.K H p ys ∧ Q (.ref p) H))) tupleB ci (ofB ci) := by
  intro B g H j ds d vs Q ok h e q
  unfold tupleB at e
  split at e
  · cases e
    obtain ⟨v, rfl, k⟩ := one_of h
    obtain ⟨a, vs, rfl, ha, ra⟩ := lst_of k
    exact ⟨a, vs, rfl, .inl ⟨.of (ok.sub ci _ _ ha), ansT (B := B) ok q ra⟩⟩
  · cases e
    obtain ⟨v, rfl, k⟩ := one_of h
    obtain ⟨a, vs, rfl, ha, ra⟩ := tup_of k
    exact ⟨a, vs, rfl, .inr ⟨sqT_same (ok.sub ci) ha.t, ansP (B := B) ok q k⟩⟩
  · cases e
theorem s_list : CallS S (fun xs H Q => ∃ p ys, xs = [.ref p] ∧ (SqL S.K H p ys ∨ SqT S.K H p ys) ∧ ∀ l, H l = none → Q (.ref l) (upd H l (.lst ys))) listB ci (ofL ci) := by
  intro B g H j ds d vs Q ok h e q
  unfold listB at e
  split at e
  · cases e
    obtain ⟨v, rfl, k⟩ := one_of h
    obtain ⟨a, vs, rfl, ha, ra⟩ := lst_of k
    exact ⟨a, vs, rfl, .inl (.of (ok.sub ci _ _ ha)), fun l nl => ansL (B := B) ok q ra nl⟩
  · cases e
    obtain ⟨v, rfl, k⟩ := one_of h
    obtain ⟨a, vs, rfl, ha, ra⟩ := tup_of k
    exact ⟨a, vs, rfl, .inr (sqT_same (ok.sub ci) ha.t), fun l nl => ansL (B := B) ok q ra nl⟩
  · cases e
def rMaxD (K : PySem.W.Frag) : List V → Hp → VK → Prop := fun xs H Q => (∃ i j, xs = [.int i, .int j] ∧ Q (.int (if j > i then j else i)) H) ∨ rMax K xs H Q
def rMinD (K : PySem.W.Frag) : List V → Hp → VK → Prop := fun xs H Q => (∃ i j, xs = [.int i, .int j] ∧ Q (.int (if j < i then j else i)) H) ∨ rMin K xs H Q
theorem cr_maxD (hc : X.calm = true) : CallR X (.builtin "max") (rMaxD X.K) := (call_max2 hc).or (cr_max hc)
theorem s_max : CallS S (rMaxD S.K) maxB ci .clean := by
  intro B g H j ds d vs Q ok h e q
  unfold maxB at e
  split at e
  · cases e
    obtain ⟨v, v', rfl, k, k'⟩ := two_of h
    rw [int_of k, int_of k']
    exact .inl ⟨_, _, rfl, ans (B := B) ok q fun _ => .int _⟩
  · split at e
    · rename_i a r hn
      cases e
      obtain rfl := ints?_some hn
      obtain ⟨v, rfl, k⟩ := one_of h
      obtain ⟨p, vs, rfl, ha, ra⟩ := lst_of k
      obtain rfl := ra.of_ints
      obtain ⟨m1, m2⟩ := maxL_spec r a
      refine .inr ⟨p, a :: r, rfl, .of (ok.sub ci _ _ ha), by simp, fun m hm hle => ?_⟩
      obtain rfl : m = maxL a r := Int.le_antisymm (m2 m hm) (hle _ m1)
      exact ans (B := B) ok q fun _ => .int _
    · cases e
  · cases e
theorem s_repr : CallS S (rRepr S) reprB ci .clean := by
  intro B g H j ds d vs Q ok h e q
  unfold reprB at e
  split at e
  · split at e
    · rename_i x hx
      cases e
      obtain ⟨v, rfl, k⟩ := one_of h
      exact ⟨_, _, v, x, rfl, ok.sub ci, ok.sm, k, hx, ans (B := B) ok q fun _ => .str _⟩
    · cases e
  · cases e
theorem s_all : CallS S (rAll S.K) allB ci .clean := by
  intro B g H j ds d vs Q ok h e q
  unfold allB at e
  split at e
  · split at e
    · rename_i ns hn
      cases e
      obtain rfl := bls?_some hn
      obtain ⟨v, rfl, k⟩ := one_of h
      obtain ⟨a, vs, rfl, ha, ra⟩ := lst_of k
      obtain rfl := ra.of_bls
      exact ⟨a, ns, rfl, .of (ok.sub ci _ _ ha), ans (B := B) ok q fun _ => .bl _⟩
    · cases e
  · cases e
theorem s_sorted : CallS S (rSortedI S.K) sortedB ci .fresh := by
  intro B g H j ds d vs Q ok h e q
  unfold sortedB at e
  split at e
  · split at e
    · rename_i ns hn
      cases e
      obtain rfl := ints?_some hn
      obtain ⟨v, rfl, k⟩ := one_of h
      obtain ⟨a, vs, rfl, ha, ra⟩ := lst_of k
      obtain rfl := ra.of_ints
      refine ⟨a, ns, rfl, .of (ok.sub ci _ _ ha), fun ns' p h1 h2 np => ?_⟩
      obtain rfl := isort_unique h1 h2
      exact ansL (B := B) (k := true) ok q (RpL.ints _) np
    · cases e
  · cases e
end

/-! ### slices -/
def cutD (xs : List D) (lo hi : Option Int) : List D := (xs.drop (HT.sIx xs.length 0 lo)).take (HT.sIx xs.length xs.length hi - HT.sIx xs.length 0 lo)
def sliceD (d : D) (lo hi : Option Int) : Option D := match d with
  | .lst xs => some (.lst (cutD xs lo hi))
  | .tup xs => some (.tup (cutD xs lo hi))
  | .str z => if z.length ≤ LINE then some (.str (cutS z lo hi)) else none
  | _ => none
def sliceL (d : D) (lo hi : Option Int) : Option D := match d with
  | .lst xs => some (.lst (cutD xs lo hi))
  | _ => none
abbrev Pv (J : Type) := Sd → J → (Option Int → J → Prop) → XP J → Prop
class MoP (f : Pv J) : Prop where
  mo : ∀ {m : Sd} {j : J} {P P' : Option Int → J → Prop} {E E' : XP J}, f m j P E → (∀ d j', P d j' → P' d j') → (∀ e m' j', E e m' j' → E' e m' j') → f m j P' E'
def pNone (m : Sd) (j : J) (P : Option Int → J → Prop) (E : XP J) : Prop := P none j
def pSome (f : Ev J) (m : Sd) (j : J) (P : Option Int → J → Prop) (E : XP J) : Prop := f m j (fun d j1 => ∃ i, d = .int i ∧ P (some i) j1) E
def eSl (φ : D → Option Int → Option Int → Option D) (fa : Ev J) (fl fh : Pv J) (m : Sd) (j : J) (P : D → J → Prop) (E : XP J) : Prop :=
  fa m j (fun x j1 => fl m j1 (fun l j2 => fh m j2 (fun u j3 => ∃ z, φ x l u = some z ∧ P z j3) E) E) E
instance : MoP (pNone (J := J)) := ⟨fun p q _ => q _ _ p⟩
instance {f : Ev J} [h : MoE f] : MoP (pSome f) := ⟨fun p q x => h.mo p (fun _ _ ⟨i, e, p⟩ => ⟨i, e, q _ _ p⟩) x⟩
instance {φ : D → Option Int → Option Int → Option D} {fa : Ev J} {fl fh : Pv J} [ha : MoE fa] [hl : MoP fl] [hh : MoP fh] : MoE (eSl φ fa fl fh) :=
  ⟨fun p q x => ha.mo p (fun _ _ p => hl.mo p (fun _ _ p => hh.mo p (fun _ _ ⟨z, e, p⟩ => ⟨z, e, q _ _ p⟩) x) x) x⟩
def revD : D → Option D
  | .lst xs => some (.lst xs.reverse)
  | .tup xs => some (.tup xs.reverse)
  | _ => none
def revL : D → Option D
  | .lst xs => some (.lst xs.reverse)
  | _ => none
section
variable {S : Js J} {B : Bs} {M : Nat → Bool} {W : WX} {X : Cx} {e a b c : Expr} {pos p2 : Pos} {f fa fb fc : Ev J} {ci : Bool} {co : Cl}
def rdP (S : Js J) (B : Bs) (M : Nat → Bool) (W : WX) (f : Pv J) : TO := fun r H Q => ∃ g m j P E, Ok S B g M r H m j ∧ f m j P E ∧ (∀ d j' g' H', P d j' → Le g g' → Ok S B g' M r H' m j' → Q d H') ∧ XOut S B M W g E
theorem PO.imp {o : Option Expr} {t t' : TO} (h : PO X o t) (i : ∀ r H Q, t' r H Q → t r H Q) : PO X o t' := ⟨fun pins s σ H Q I q => h.run pins s σ H Q I (i _ _ _ q)⟩
theorem p_none : PO X none (rdP S B M W pNone) := PO.imp po_none fun r H Q ⟨g, m, j, P, E, ok, hf, q, _⟩ => q _ _ g H hf (Le.refl g) ok
theorem p_some (h : PE X e (rdE S B M W .mix f)) : PO X (some e) (rdP S B M W (pSome f)) := PO.imp (po_some h) fun r H Q ⟨g, m, j, P, E, ok, hf, q, xo⟩ =>
  ⟨g, m, j, _, E, ok, hf, fun d j1 g1 v H1 ⟨i, ei, p⟩ l1 ok1 w => ⟨i, by subst ei; exact int_of w, q _ _ g1 H1 p l1 ok1⟩, xo⟩
def SlS (S : Js J) (r : V → Option Int → Option Int → Hp → VK → Prop) (φ : D → Option Int → Option Int → Option D) (ci : Bool) (co : Cl) : Prop :=
  ∀ (B : Bs) (g : Gh) (H : Hp) (j : J) (d1 d : D) (lo hi : Option Int) (v1 : V) (Q : VK), OkB S B g H j → Rp S (hp ci g) d1 v1 → φ d1 lo hi = some d →
    (∀ g' v H', Le g g' → OkB S B g' H' j → Val S g g' co d v → Q v H') → r v1 lo hi H Q
theorem e_slice {lo hi : Option Expr} {fl fh : Pv J} {r : V → Option Int → Option Int → Hp → VK → Prop} {φ : D → Option Int → Option Int → Option D} (hr : SlR X r) (ho : SlS S r φ ci co) (ha : PE X a (rdE S B M W (ofB ci) fa)) (hl : PO X lo (rdP S B M W fl)) (hh : PO X hi (rdP S B M W fh)) :
    PE X (.Subscript a (.Slice lo hi none p2) pos) (rdE S B M W co (eSl φ fa fl fh)) := PE.imp (pe_slice hr ha hl hh) fun R H Q ⟨g, m, j, P, E, ok, hf, q, xo⟩ =>
  ⟨g, m, j, _, E, ok, hf, fun x j1 g1 v1 H1 h1 l1 ok1 w1 => ⟨g1, m, j1, _, E, ok1, h1, fun l j2 g2 H2 h2 l2 ok2 => ⟨g2, m, j2, _, E, ok2, h2, fun u j3 g3 H3 ⟨z, h4, p⟩ l3 ok3 =>
    ho B g3 H3 _ _ _ _ _ v1 Q ok3.b (rp_hp ((w1.le l2).le l3)) h4 fun g4 v H4 l4 ok4 w4 => q _ _ g4 v H4 p (((l1.trans l2).trans l3).trans l4) ⟨ok4, ok3.s.le l4⟩ (w4.back ((l1.trans l2).trans l3)), xo.le (l1.trans l2).f⟩, xo.le l1.f⟩, xo⟩
theorem RpL.cut {F : Hp} {ds : List D} {vs : List V} (h : RpL S F ds vs) (lo hi : Option Int) : RpL S F (cutD ds lo hi) (cutV vs lo hi) := by
  unfold cutD cutV
  rw [h.length]
  exact (h.drop _).take _
def rSlD (K : PySem.W.Frag) : V → Option Int → Option Int → Hp → VK → Prop := fun x lo hi H Q => rSlL K x lo hi H Q ∨ rSlF K x lo hi H Q ∨ rSlS x lo hi H Q
theorem sl_D : SlR X (rSlD X.K) := sl_list.or (sl_tupF.or sl_str)
theorem cutD_all {xs : List D} {lo hi : Option Int} (h : HT.sIx xs.length 0 lo = 0 ∧ HT.sIx xs.length xs.length hi = xs.length) : cutD xs lo hi = xs := by
  unfold cutD
  rw [h.1, h.2]
  simp
theorem s_slice : SlS S (rSlD S.K) sliceD ci (ofB ci) := by
  intro B g H j d1 d lo hi v1 Q ok h e q
  unfold sliceD at e
  split at e
  · cases e
    obtain ⟨a, vs, rfl, ha, ra⟩ := lst_of h
    exact .inl ⟨a, vs, rfl, .of (ok.sub ci _ _ ha), fun p np => ansF (B := B) ok q (ra.cut lo hi) np⟩
  · cases e
    obtain ⟨a, vs, rfl, ha, ra⟩ := tup_of h
    refine .inr (.inl ⟨a, vs, rfl, sqT_same (ok.sub ci) ha.t, fun z => ?_, fun z => ansT (B := B) ok q (ra.cut lo hi)⟩)
    rw [← ra.length] at z
    rw [cutD_all z] at q
    exact ansP (B := B) ok q h
  · split at e
    · rename_i hl
      cases e
      rw [str_of h]
      exact .inr (.inr ⟨_, rfl, Nat.le_trans hl line_ok, q g _ H (Le.refl g) ok (by cases ci <;> exact .str _)⟩)
    · cases e
  · cases e
/-- e[::-1] of a list or a tuple -/
def tRevS (K : PySem.W.Frag) (te : TE) : TE := fun σ H Q => te σ H fun x H1 => (∃ a xs, x = .ref a ∧ SqL K H1 a xs ∧ ∀ p, H1 p = none → Q (.ref p) (upd H1 p (.lst xs.reverse))) ∨ (∃ a xs, x = .ref a ∧ SqT K H1 a xs ∧ NewT H1 xs.reverse Q)
open PyProof.Rows hiding St in
theorem pe_revS {te : TE} {k : Nat} {p1 p2 p3 : Pos} (he : PE X e te) : PE X (.Subscript e (.Slice none none (some (.UnaryOp .USub (.Constant (.int 1) k p1) p2)) p3) pos) (tRevS X.K te) := by
  refine ⟨fun pins s σ H Q I h => ?_⟩
  refine Subscript_ (thn (he.run pins s σ H _ I h) fun v s1 ⟨x, H1, I1, r1, q1⟩ => ?_)
  have hst : PO X (some (.UnaryOp .USub (.Constant (.int 1) k p1) p2)) (tPart (tUn (rU fun i => .int (-i)) (tC (.int 1)))) := po_some (pe_un un_neg pe_int)
  refine wpAny_Slice (thn (po_none.run pins s1 σ H1 (fun o H2 => o = none ∧ H2 = H1) I1 ⟨rfl, rfl⟩) fun vl s2 ⟨l, H2, I2, pl, el, e2⟩ => ?_)
  subst el e2
  refine thn (po_none.run pins s2 σ H2 (fun o H3 => o = none ∧ H3 = H2) I2 ⟨rfl, rfl⟩) fun vu s3 ⟨u, H3, I3, pu, eu, e3⟩ => ?_
  subst eu e3
  refine thn (hst.run pins s3 σ H3 (fun o H4 => o = some (-1) ∧ H4 = H3) I3 ⟨1, rfl, -1, rfl, rfl, rfl⟩) fun vs s4 ⟨o, H4, I4, ps, eo, e4⟩ => ?_
  subst eo e4
  have I5 : Inv X pins σ H4 { s4 with heap := s4.heap.push { cls := .type "slice", data := .fields #[vl, vu, vs] } } := I4.kept (t' := s4.toks) fun b ob q => Heap.get?_push_of_some _ q
  rcases q1 with ⟨a, xs, ex, hx, q⟩ | ⟨a, xs, ex, hx, q⟩
  · subst ex
    cases r1
    obtain ⟨its, r, ht, hz⟩ := I5.list hx
    have hlen := r.length
    show wpAny (model X.prog X.w) X.A (subscriptTail e (.Slice none none (some (.UnaryOp .USub (.Constant (.int 1) k p1) p2)) p3) (.ref a) (.ref s4.heap.objs.size)) (EP X pins σ Q) X.xe { s4 with heap := s4.heap.push { cls := .type "slice", data := .fields #[vl, vu, vs] } }
    refine tail_any (ops := [.ref a, .ref s4.heap.objs.size]) ht.isList.typeIs (PySem.slot_list_getitem.lookup) ?_ (by with_unfolding_all rfl)
    refine wpAny_getItem_list_slice ht.isList (Heap.IsSliceOf.new _ vl vu vs) pl pu ps (by decide) ?_ (by rw [List.size_toArray]; omega)
    rw [PySem.W.krv_pick]
    refine ⟨.ref _, _, I5.laid (t' := s4.toks) (o := .lst xs.reverse) (fun b ob q => Heap.get?_push_of_some _ q) (Nat.le_refl _) ?_, rfl, q _ (I5.hok.fresh (Nat.le_refl _))⟩
    exact ⟨by rw [List.length_reverse]; exact hz, _, 0, r.reverse, Heap.get?_push_size _ rfl⟩
  · subst ex
    cases r1
    obtain ⟨its, r, ht, hz⟩ := I5.tuple hx
    have hlen := r.length
    show wpAny (model X.prog X.w) X.A (subscriptTail e (.Slice none none (some (.UnaryOp .USub (.Constant (.int 1) k p1) p2)) p3) (.ref a) (.ref s4.heap.objs.size)) (EP X pins σ Q) X.xe { s4 with heap := s4.heap.push { cls := .type "slice", data := .fields #[vl, vu, vs] } }
    refine tail_any (ops := [.ref a, .ref s4.heap.objs.size]) ht.typeIs (PyProof.Rows.slot_tuple_getitem.lookup) ?_ (by with_unfolding_all rfl)
    refine HT.getItem_tuple_rev ht (Heap.IsSliceOf.new _ vl vu vs) pl pu ps ?_ (by rw [List.size_toArray]; omega)
    refine ⟨.ref _, _, I5.laid (t' := s4.toks) (o := .frz { cls := .type "tuple", data := .seq its.reverse.toArray } (.tup xs.reverse)) (fun b ob q => Heap.get?_push_of_some _ q) (Nat.le_refl _) ?_, rfl, q _ _ (I5.hok.fresh (Nat.le_refl _)) rfl⟩
    exact ⟨Heap.get?_push_size _ rfl, by rw [List.length_reverse]; exact hz, its.reverse, r.reverse, IsTup.new _ _⟩
theorem e_rev {k : Nat} {p1 p2 p3 : Pos} (hK : X.K = S.K) (ha : PE X a (rdE S B M W (ofB ci) fa)) : PE X (.Subscript a (.Slice none none (some (.UnaryOp .USub (.Constant (.int 1) k p1) p2)) p3) pos) (rdE S B M W (ofB ci) (eUn revD fa)) :=
  PE.imp (pe_revS ha) fun R H Q ⟨g, m, j, P, E, ok, hf, q, xo⟩ => by
    refine ⟨g, m, j, _, E, ok, hf, fun x j' g1 v1 H1 ⟨z, h3, p⟩ l1 ok1 w1 => ?_, xo⟩
    unfold revD at h3
    split at h3
    · cases h3
      obtain ⟨a, vs, rfl, ha, ra⟩ := lst_of (rp_hp w1)
      exact .inl ⟨a, vs, rfl, .of (ok1.b.sub ci _ _ ha), fun _ np => ansF (B := B) ok1.b (fun g3 v H3 l3 ok3 w3 => q _ _ g3 v H3 p (l1.trans l3) ⟨ok3, ok1.s.le l3⟩ (w3.back l1)) ra.reverse np⟩
    · cases h3
      obtain ⟨a, vs, rfl, ha, ra⟩ := tup_of (rp_hp w1)
      exact .inr ⟨a, vs, rfl, by rw [hK]; exact sqT_same (ok1.b.sub ci) ha.t, ansT (B := B) ok1.b (fun g3 v H3 l3 ok3 w3 => q _ _ g3 v H3 p (l1.trans l3) ⟨ok3, ok1.s.le l3⟩ (w3.back l1)) ra.reverse⟩
    · cases h3
end
end Mp

/-! Mp5: truth, tests, what is walked, targets, comprehensions. -/
namespace Mp
open PySem PySem.Spec L2
variable {J : Type}

/-! ### truth -/
def truD : D → Option Bool
  | .non => some false
  | .bl b => some b
  | .int i => some (i != 0)
  | .str x => if x.length ≤ LINE then some ((x.length : Int) != 0) else none
  | .tup xs => some (!xs.isEmpty)
  | .lst xs => some (!xs.isEmpty)
  | .dct xs => some (!xs.isEmpty)
  | _ => none
section
variable {S : Js J} {B : Bs} {M : Nat → Bool} {W : WX} {X : Cx} {e a b c : Expr} {es rest : List Expr} {pos p : Pos} {f fa fb fc : Ev J} {ta tb : Tv J}
theorem RpL.isEmpty {F : Hp} {ds : List D} {vs : List V} (h : RpL S F ds vs) : (!ds.isEmpty) = !vs.isEmpty := by cases h <;> rfl
theorem tru_of {F H : Hp} {d : D} {v : V} {k : Bool} (h : Rp S F d v) (fh : Same F H) (e : truD d = some k) : TruV S.K v H k := by
  cases h with
  | non => cases e; rfl
  | bl b => cases e; rfl
  | int i => cases e; rfl
  | str x =>
    have e : (if x.length ≤ LINE then some ((x.length : Int) != 0) else none) = some k := e
    split at e
    · rename_i hl
      cases e; exact ⟨Nat.le_trans hl line_ok, rfl⟩
    · cases e
  | tup h1 h2 => cases e; exact .inr (.inl ⟨_, sqT_same fh h1.t, h2.isEmpty⟩)
  | lst h1 h2 => cases e; exact .inl ⟨_, .of (fh _ _ h1), h2.isEmpty⟩
  | dct h1 h2 h3 =>
    cases e
    refine .inr (.inr ⟨_, fh _ _ h1, ?_⟩)
    rename_i kds kvs
    have h4 : kds.length = kvs.length := by simpa using congrArg List.length h2
    cases kds <;> cases kvs <;> first | rfl | cases h4
  | jar => cases e
  | obj _ => cases e
  | ins _ _ _ => cases e
  | dtp _ _ _ => cases e
  | exc0 _ => cases e
  | exc1 _ _ _ => cases e

/-! ### tests -/
def tOf (fa : Ev J) (m : Sd) (j : J) (P : Bool → J → Prop) (E : XP J) : Prop := fa m j (fun x j1 => ∃ b, truD x = some b ∧ P b j1) E
def tBl (fa : Ev J) (m : Sd) (j : J) (P : Bool → J → Prop) (E : XP J) : Prop := fa m j (fun x j1 => ∃ b, x = .bl b ∧ P b j1) E
def tAndD (ta tb : Tv J) (m : Sd) (j : J) (P : Bool → J → Prop) (E : XP J) : Prop := ta m j (fun b j1 => if b = true then tb m j1 P E else P false j1) E
def tOrD (ta tb : Tv J) (m : Sd) (j : J) (P : Bool → J → Prop) (E : XP J) : Prop := ta m j (fun b j1 => if b = true then P true j1 else tb m j1 P E) E
def tNotD (ta : Tv J) (m : Sd) (j : J) (P : Bool → J → Prop) (E : XP J) : Prop := ta m j (fun b j1 => P (!b) j1) E
def tYesD (m : Sd) (j : J) (P : Bool → J → Prop) (E : XP J) : Prop := P true j
/-- a chain of two comparisons -/
def eChain (φ ψ : D → D → Option D) (fa fb fc : Ev J) (m : Sd) (j : J) (P : D → J → Prop) (E : XP J) : Prop :=
  fa m j (fun x j1 => fb m j1 (fun y j2 => ∃ b, φ x y = some (.bl b) ∧ if b = true then fc m j2 (fun z j3 => ∃ d, ψ y z = some d ∧ P d j3) E else P (.bl false) j2) E) E
def eAnd (fa fb : Ev J) (m : Sd) (j : J) (P : D → J → Prop) (E : XP J) : Prop := fa m j (fun x j1 => ∃ b, truD x = some b ∧ if b = true then fb m j1 P E else P x j1) E
def eOr (fa fb : Ev J) (m : Sd) (j : J) (P : D → J → Prop) (E : XP J) : Prop := fa m j (fun x j1 => ∃ b, truD x = some b ∧ if b = true then P x j1 else fb m j1 P E) E
def eNot (fa : Ev J) (m : Sd) (j : J) (P : D → J → Prop) (E : XP J) : Prop := fa m j (fun x j1 => ∃ b, truD x = some b ∧ P (.bl (!b)) j1) E
def eIf (tc : Tv J) (fa fb : Ev J) (m : Sd) (j : J) (P : D → J → Prop) (E : XP J) : Prop := tc m j (fun b j1 => if b = true then fa m j1 P E else fb m j1 P E) E
theorem ite_mono {b : Bool} {p q p' q' : Prop} (h : if b = true then p else q) (hp : p → p') (hq : q → q') : if b = true then p' else q' := by
  cases b
  · exact hq h
  · exact hp h
section
variable {φ ψ : D → D → Option D} {f1 f2 f3 : Ev J} {t1 t2 : Tv J}
instance [ha : MoE f1] : MoT (tOf f1) := ⟨fun h q x => ha.mo h (fun _ _ ⟨b, e, p⟩ => ⟨b, e, q _ _ p⟩) x⟩
instance [ha : MoE f1] : MoT (tBl f1) := ⟨fun h q x => ha.mo h (fun _ _ ⟨b, e, p⟩ => ⟨b, e, q _ _ p⟩) x⟩
instance [ha : MoT t1] [hb : MoT t2] : MoT (tAndD t1 t2) := ⟨fun h q x => ha.mo h (fun _ _ p => ite_mono p (fun p => hb.mo p q x) (q _ _)) x⟩
instance [ha : MoT t1] [hb : MoT t2] : MoT (tOrD t1 t2) := ⟨fun h q x => ha.mo h (fun _ _ p => ite_mono p (q _ _) (fun p => hb.mo p q x)) x⟩
instance [ha : MoT t1] : MoT (tNotD t1) := ⟨fun h q x => ha.mo h (fun _ _ p => q _ _ p) x⟩
instance : MoT (tYesD (J := J)) := ⟨fun h q x => q _ _ h⟩
instance [ha : MoE f1] [hb : MoE f2] [hc : MoE f3] : MoE (eChain φ ψ f1 f2 f3) := ⟨fun h q x => ha.mo h (fun _ _ p => hb.mo p (fun _ _ ⟨b, e, p⟩ => ⟨b, e, ite_mono p (fun p => hc.mo p (fun _ _ ⟨d, e, p⟩ => ⟨d, e, q _ _ p⟩) x) (q _ _)⟩) x) x⟩
instance [ha : MoE f1] [hb : MoE f2] : MoE (eAnd f1 f2) := ⟨fun h q x => ha.mo h (fun _ _ ⟨b, e, p⟩ => ⟨b, e, ite_mono p (fun p => hb.mo p q x) (q _ _)⟩) x⟩
instance [ha : MoE f1] [hb : MoE f2] : MoE (eOr f1 f2) := ⟨fun h q x => ha.mo h (fun _ _ ⟨b, e, p⟩ => ⟨b, e, ite_mono p (q _ _) (fun p => hb.mo p q x)⟩) x⟩
instance [ha : MoE f1] : MoE (eNot f1) := ⟨fun h q x => ha.mo h (fun _ _ ⟨b, e, p⟩ => ⟨b, e, q _ _ p⟩) x⟩
instance [hc : MoT t1] [ha : MoE f1] [hb : MoE f2] : MoE (eIf t1 f1 f2) := ⟨fun h q x => hc.mo h (fun _ _ p => ite_mono p (fun p => ha.mo p q x) (fun p => hb.mo p q x)) x⟩
end
theorem t_truth (hK : X.K = S.K) (h : PE X a (rdE S B M W .mix fa)) (he : ∀ whole, isTrue a X.env whole = (do let v ← whole; standAt a.pos; holding [v] (truthy v))) : PT X a (rdT S B M W (tOf fa)) :=
  PT.imp (pt_truth h he) fun r H Q ⟨g, m, j, P, E, ok, hf, q, xo⟩ =>
    ⟨g, m, j, _, E, ok, hf, fun d j' g1 v H1 ⟨b, h2, p⟩ l1 ok1 w => ⟨_, by rw [hK]; exact tru_of w ok1.b.gh h2, q _ _ g1 H1 p l1 ok1⟩, xo⟩
/-- a test whose reading is that of a value True or False -/
theorem t_of {t : TE} (h : PT X a (tTest t)) (i : ∀ r H Q, rdE S B M W .mix fa r H Q → t r H Q) : PT X a (rdT S B M W (tBl fa)) :=
  PT.imp h fun r H Q ⟨g, m, j, P, E, ok, hf, q, xo⟩ =>
    i _ _ _ ⟨g, m, j, _, E, ok, hf, fun d j' g1 v H1 ⟨b, e, p⟩ l1 ok1 w => ⟨b, by subst e; exact bl_of w, q _ _ g1 H1 p l1 ok1⟩, xo⟩
theorem rdE_mix {k : Cl} {R : St} {H : Hp} {Q : VK} (h : rdE S B M W .mix f R H Q) : rdE S B M W k f R H Q := by
  obtain ⟨g, m, j, P, E, ok, hf, q, xo⟩ := h
  exact ⟨g, m, j, P, E, ok, hf, fun d j' g' v H' p le ok' w => q d j' g' v H' p le ok' (w.mix ok'.b.fg), xo⟩
theorem t_cmp {op : CmpOp} {r : R2} {φ : D → D → Option D} {ci : Bool} {co : Cl} (hr : OpR X (compareOp op) r) (ho : OpS S r φ ci co) (ha : PE X a (rdE S B M W (ofB ci) fa)) (hb : PE X b (rdE S B M W (ofB ci) fb)) (hm : behindInMarks op b = false) :
    PT X (.Compare a [op] [b] pos) (rdT S B M W (tBl (eOp φ fa fb))) := t_of (pt_cmpR hr ha hb hm) fun _ _ _ h => tOp_rd ho (rdE_mix h)
theorem t_and1 (ha : PT X a (rdT S B M W ta)) : PW X (.BoolOp .And [a] pos) (rdT S B M W ta) := pw_and1 ha
theorem t_or1 (ha : PT X a (rdT S B M W ta)) : PW X (.BoolOp .Or [a] pos) (rdT S B M W ta) := pw_or1 ha
theorem t_and (ha : PT X a (rdT S B M W ta)) (hb : PW X (.BoolOp .And (b :: rest) pos) (rdT S B M W tb)) : PW X (.BoolOp .And (a :: b :: rest) pos) (rdT S B M W (tAndD ta tb)) :=
  PW.imp (pw_and ha hb) fun r H Q ⟨g, m, j, P, E, ok, hf, q, xo⟩ =>
    ⟨g, m, j, _, E, ok, hf, fun d j1 g1 H1 p l1 ok1 => ite_mono p (fun p => ⟨g1, m, _, _, E, ok1, p, fun d j2 g2 H2 p l2 ok2 => q _ _ g2 H2 p (l1.trans l2) ok2, xo.le l1.f⟩) (fun p => q _ _ g1 H1 p l1 ok1), xo⟩
theorem t_or (ha : PT X a (rdT S B M W ta)) (hb : PW X (.BoolOp .Or (b :: rest) pos) (rdT S B M W tb)) : PW X (.BoolOp .Or (a :: b :: rest) pos) (rdT S B M W (tOrD ta tb)) :=
  PW.imp (pw_or ha hb) fun r H Q ⟨g, m, j, P, E, ok, hf, q, xo⟩ =>
    ⟨g, m, j, _, E, ok, hf, fun d j1 g1 H1 p l1 ok1 => ite_mono p (fun p => q _ _ g1 H1 p l1 ok1) (fun p => ⟨g1, m, _, _, E, ok1, p, fun d j2 g2 H2 p l2 ok2 => q _ _ g2 H2 p (l1.trans l2) ok2, xo.le l1.f⟩), xo⟩
theorem t_not (ha : PT X a (rdT S B M W ta)) : PT X (.UnaryOp .Not a pos) (rdT S B M W (tNotD ta)) :=
  PT.imp (pt_not ha) fun r H Q ⟨g, m, j, P, E, ok, hf, q, xo⟩ => ⟨g, m, j, _, E, ok, hf, fun d j1 g1 H1 p l1 ok1 => q _ _ g1 H1 p l1 ok1, xo⟩
theorem tChain_rd {r r' : R2} {φ ψ : D → D → Option D} {ci : Bool} (ho : OpS S r φ ci .clean) (ho' : OpS S r' ψ ci .clean) {R : St} {H : Hp} {Q : VK} (h : rdE S B M W .clean (eChain φ ψ fa fb fc) R H Q) :
    tChain r r' (rdE S B M W (ofB ci) fa) (rdE S B M W (ofB ci) fb) (rdE S B M W (ofB ci) fc) R H Q := by
  obtain ⟨g, m, j, P, E, ok, hf, q, xo⟩ := h
  refine ⟨g, m, j, _, E, ok, hf, fun x j1 g1 v1 H1 h1 l1 ok1 w1 => ⟨g1, m, _, _, E, ok1, h1, fun y j2 g2 v2 H2 ⟨b, h3, h4⟩ l2 ok2 w2 => ?_, xo.le l1.f⟩, xo⟩
  refine ho B g2 H2 j2 x y _ v1 v2 _ ok2.b (rp_hp (w1.le l2)) (rp_hp w2) h3 fun g3 v H3 l3 ok3 w3 => ⟨b, bl_of w3, ?_⟩
  refine ite_mono h4 (fun h4 => ?_) (fun h4 => ?_)
  · refine ⟨g3, m, _, _, E, ⟨ok3, ok2.s.le l3⟩, h4, fun z j4 g4 v4 H4 ⟨d, h5, p⟩ l4 ok4 w4 => ?_, xo.le ((l1.trans l2).trans l3).f⟩
    exact ho' B g4 H4 _ y z _ v2 v4 Q ok4.b (rp_hp ((w2.le l3).le l4)) (rp_hp w4) h5 fun g5 v5 H5 l5 ok5 w5 => q _ _ g5 v5 H5 p ((((l1.trans l2).trans l3).trans l4).trans l5) ⟨ok5, ok4.s.le l5⟩ w5
  · exact q _ _ g3 _ H3 h4 ((l1.trans l2).trans l3) ⟨ok3, ok2.s.le l3⟩ (.bl _)
theorem e_chain {op op' : CmpOp} {r r' : R2} {φ ψ : D → D → Option D} {ci : Bool} (hr : OpR X (compareOp op) r) (hr' : OpR X (compareOp op') r') (ho : OpS S r φ ci .clean) (ho' : OpS S r' ψ ci .clean)
    (ha : PE X a (rdE S B M W (ofB ci) fa)) (hb : PE X b (rdE S B M W (ofB ci) fb)) (hc : PE X c (rdE S B M W (ofB ci) fc)) (hm : lastMarks [op, op'] [b, c] = false) :
    PE X (.Compare a [op, op'] [b, c] pos) (rdE S B M W .clean (eChain φ ψ fa fb fc)) := PE.imp (pe_chain hr hr' ha hb hc hm) fun _ _ _ h => tChain_rd ho ho' h
theorem t_chain {op op' : CmpOp} {r r' : R2} {φ ψ : D → D → Option D} {ci : Bool} (hr : OpR X (compareOp op) r) (hr' : OpR X (compareOp op') r') (ho : OpS S r φ ci .clean) (ho' : OpS S r' ψ ci .clean)
    (ha : PE X a (rdE S B M W (ofB ci) fa)) (hb : PE X b (rdE S B M W (ofB ci) fb)) (hc : PE X c (rdE S B M W (ofB ci) fc)) (hm : lastMarks [op, op'] [b, c] = false) :
    PT X (.Compare a [op, op'] [b, c] pos) (rdT S B M W (tBl (eChain φ ψ fa fb fc))) := t_of (pt_chain hr hr' ha hb hc hm) fun _ _ _ h => tChain_rd ho ho' (rdE_mix h)

/-! ### and, or, not, if .. else as values -/
theorem e_one {op : BoolOp} {k : Cl} (h : PE X a (rdE S B M W k fa)) : PE X (.BoolOp op [a] pos) (rdE S B M W k fa) := pe_one h
theorem e_and {k : Bool} (hK : X.K = S.K) (ha : PE X a (rdE S B M W (ofB k) fa)) (hb : PE X (.BoolOp .And (b :: rest) pos) (rdE S B M W (ofB k) fb)) : PE X (.BoolOp .And (a :: b :: rest) pos) (rdE S B M W (ofB k) (eAnd fa fb)) :=
  PE.imp (pe_andT ha hb) fun r H Q ⟨g, m, j, P, E, ok, hf, q, xo⟩ =>
    ⟨g, m, j, _, E, ok, hf, fun x j1 g1 v1 H1 ⟨b, h2, p⟩ l1 ok1 w1 => ⟨b, by rw [hK]; exact tru_of (rp_hp w1) (ok1.b.sub k) h2,
      ite_mono p (fun p => ⟨g1, m, _, _, E, ok1, p, fun d j2 g2 v2 H2 p l2 ok2 w2 => q _ _ g2 v2 H2 p (l1.trans l2) ok2 (w2.back l1), xo.le l1.f⟩) (fun p => q _ _ g1 v1 H1 p l1 ok1 w1)⟩, xo⟩
theorem e_not (hK : X.K = S.K) (ha : PE X a (rdE S B M W .mix fa)) : PE X (.UnaryOp .Not a pos) (rdE S B M W .clean (eNot fa)) :=
  PE.imp (pe_notT ha) fun r H Q ⟨g, m, j, P, E, ok, hf, q, xo⟩ =>
    ⟨g, m, j, _, E, ok, hf, fun x j1 g1 v1 H1 ⟨b, h2, p⟩ l1 ok1 w1 => ⟨_, by rw [hK]; exact tru_of w1 ok1.b.gh h2, q _ _ g1 _ H1 p l1 ok1 (.bl _)⟩, xo⟩
theorem e_if {k : Cl} {tc : Tv J} (hc : PT X c (rdT S B M W tc)) (ha : PE X a (rdE S B M W k fa)) (hb : PE X b (rdE S B M W k fb)) : PE X (.IfExp c a b pos) (rdE S B M W k (eIf tc fa fb)) :=
  PE.imp (pe_ifExp hc ha hb) fun r H Q ⟨g, m, j, P, E, ok, hf, q, xo⟩ =>
    ⟨g, m, j, _, E, ok, hf, fun d j1 g1 H1 p l1 ok1 => ite_mono p (fun p => ⟨g1, m, _, _, E, ok1, p, fun d j2 g2 v2 H2 p l2 ok2 w2 => q _ _ g2 v2 H2 p (l1.trans l2) ok2 (w2.back l1), xo.le l1.f⟩)
      (fun p => ⟨g1, m, _, _, E, ok1, p, fun d j2 g2 v2 H2 p l2 ok2 w2 => q _ _ g2 v2 H2 p (l1.trans l2) ok2 (w2.back l1), xo.le l1.f⟩), xo⟩
end

/-! ### what is walked -/
abbrev Iv (J : Type) := Av J
/-- an item as it comes: what is frozen, or a new tuple of such (to be unpacked, or kept) -/
def YD (S : Js J) (g : Gh) (w : Bool) (d : D) (H : Hp) (x : V) (H' : Hp) : Prop :=
  (H' = H ∧ Rp S g.F d x) ∨ (w = true ∧ ∃ T vs es, x = .ref T ∧ H T = none ∧ H' = upd H T (.tup vs) ∧ d = .tup es ∧ RpL S g.F es vs) ∨
    ∃ T o vs es, x = .ref T ∧ H T = none ∧ o.dict = none ∧ H' = upd H T (.frz o (.tup vs)) ∧ d = .tup es ∧ RpL S g.F es vs
def WalkD (S : Js J) (Jt : It) (ds : List D) (c w : Bool) (g : Gh) : Prop := Walk Jt ds.length (fun H => Same (hp c g) H) (fun i H x H' => ∃ d, ds[i]? = some d ∧ YD S g w d H x H')
def rdI (S : Js J) (B : Bs) (M : Nat → Bool) (W : WX) (c w : Bool) (f : Iv J) : TI := fun r H R => ∃ g m j P E, Ok S B g M r H m j ∧ f m j P E ∧ (∀ ds j' g' H' Jt, P ds j' → Le g g' → Ok S B g' M r H' m j' → WalkD S Jt ds c w g' → R Jt H') ∧ XOut S B M W g E
def seqL : D → Option (List D)
  | .lst xs => some xs
  | .tup xs => some xs
  | .str z => some (z.cps.toList.map fun c => .str ⟨#[c]⟩)
  | _ => none
def iSeq (f : Ev J) (m : Sd) (j : J) (P : List D → J → Prop) (E : XP J) : Prop := f m j (fun d j1 => ∃ xs, seqL d = some xs ∧ P xs j1) E
def rngD (lo : Int) (n : Nat) : List D := (List.range n).map fun k => .int (lo + (k : Nat))
theorem rngD_length (lo : Int) (n : Nat) : (rngD lo n).length = n := by unfold rngD; simp
theorem rngD_get {lo : Int} {n i : Nat} (h : i < n) : (rngD lo n)[i]? = some (.int (lo + (i : Nat))) := by unfold rngD; simp [h]
def LIM : Int := 2 ^ 61
def iRng1 (f : Ev J) (m : Sd) (j : J) (P : List D → J → Prop) (E : XP J) : Prop := f m j (fun d j1 => ∃ n, d = .int n ∧ -LIM ≤ n ∧ n ≤ LIM ∧ P (rngD 0 n.toNat) j1) E
def iRng2 (f f2 : Ev J) (m : Sd) (j : J) (P : List D → J → Prop) (E : XP J) : Prop :=
  f m j (fun d j1 => f2 m j1 (fun d2 j2 => ∃ a b, d = .int a ∧ d2 = .int b ∧ -LIM ≤ a ∧ a ≤ LIM ∧ -LIM ≤ b ∧ b ≤ LIM ∧ P (rngD a (b - a).toNat) j2) E) E
def enumD (xs : List D) : List D := (xs.zipIdx).map fun p => .tup [.int (p.2 : Nat), p.1]
def iEnm (f : Ev J) (m : Sd) (j : J) (P : List D → J → Prop) (E : XP J) : Prop := f m j (fun d j1 => ∃ xs, d = .lst xs ∧ P (enumD xs) j1) E
def zipD (xs ys : List D) : List D := (xs.zip ys).map fun p => .tup [p.1, p.2]
def zipO : D → D → Option (List D)
  | .lst xs, .lst ys => some (zipD xs ys)
  | .tup xs, .tup ys => some (zipD xs ys)
  | _, _ => none
def iZip (f f2 : Ev J) (m : Sd) (j : J) (P : List D → J → Prop) (E : XP J) : Prop := f m j (fun x j1 => f2 m j1 (fun y j2 => ∃ zs, zipO x y = some zs ∧ P zs j2) E) E
section
variable {f1 f2 : Ev J}
instance [ha : MoE f1] : MoA (iSeq f1) := ⟨fun h q x => ha.mo h (fun _ _ ⟨b, e, p⟩ => ⟨b, e, q _ _ p⟩) x⟩
instance [ha : MoE f1] : MoA (iRng1 f1) := ⟨fun h q x => ha.mo h (fun _ _ ⟨b, e1, e2, e3, p⟩ => ⟨b, e1, e2, e3, q _ _ p⟩) x⟩
instance [ha : MoE f1] [hb : MoE f2] : MoA (iRng2 f1 f2) := ⟨fun h q x => ha.mo h (fun _ _ p => hb.mo p (fun _ _ ⟨a, b, e1, e2, e3, e4, e5, e6, p⟩ => ⟨a, b, e1, e2, e3, e4, e5, e6, q _ _ p⟩) x) x⟩
instance [ha : MoE f1] : MoA (iEnm f1) := ⟨fun h q x => ha.mo h (fun _ _ ⟨b, e, p⟩ => ⟨b, e, q _ _ p⟩) x⟩
instance [ha : MoE f1] [hb : MoE f2] : MoA (iZip f1 f2) := ⟨fun h q x => ha.mo h (fun _ _ p => hb.mo p (fun _ _ ⟨b, e, p⟩ => ⟨b, e, q _ _ p⟩) x) x⟩
end
section
open PyProof.Rows hiding St
variable {X : Cx}
/-- a list, a tuple or a text -/
def iAny (K : PySem.W.Frag) (t : TE) : TI := fun σ H R => t σ H fun v H1 => (∃ a, v = .ref a ∧ (∃ xs, SqL K H1 a xs) ∧ R (Itl K a) H1) ∨ (∃ a, v = .ref a ∧ (∃ xs, SqT K H1 a xs) ∧ R (Itt K a) H1) ∨ ∃ x, v = .str x ∧ R (Its x) H1
theorem pi_any {l tg : Expr} {tl : TE} (hl : PE X l tl) : PI X tg l (iAny X.K tl) := by
  refine ⟨fun pins s σ H R I h => ?_⟩
  refine thn (hl.run pins s σ H _ I h) fun v s1 ⟨x, H1, I1, r1, q1⟩ => ?_
  rcases q1 with ⟨a, e, ⟨xs, hq⟩, q⟩ | ⟨a, e, ⟨xs, hq⟩, q⟩ | ⟨x, ex, q⟩
  · subst e
    cases r1
    obtain ⟨its, rv, p, hz⟩ := I1.list hq
    refine wpAny_pyIter_list p.isList ?_
    exact pi_one (tk := s1.toks) I1 _ (turn_list a _) ⟨_, Heap.get?_push_size _ rfl, rfl, rfl⟩ q
  · subst e
    cases r1
    obtain ⟨its, rv, p, hz⟩ := I1.tuple hq
    refine wpAny_pyIter_tuple (show s1.heap.IsTuple a its.toArray from p) ?_
    exact pi_one (tk := s1.toks) I1 _ (turn_tuple a _) ⟨_, Heap.get?_push_size _ rfl, rfl, rfl⟩ q
  · subst ex
    obtain ⟨t, rfl⟩ := r1
    cases ha : x.cps.all (· < 128)
    · exact wpAny_pyIter_wide ha (pi_one (tk := s1.toks) I1 _ (turn_str _ x t "str_iterator" (.inr rfl)) ⟨_, Heap.get?_push_size _ rfl, rfl, rfl⟩ q)
    · exact wpAny_pyIter_ascii ha (pi_one (tk := s1.toks) I1 _ (turn_str _ x t "str_ascii_iterator" (.inl rfl)) ⟨_, Heap.get?_push_size _ rfl, rfl, rfl⟩ q)
end
section
variable {S : Js J} {B : Bs} {M : Nat → Bool} {W : WX} {X : Cx} {tg e a b c : Expr} {es rest : List Expr} {pos p : Pos} {f fa fb fc : Ev J}
theorem walkD_seq {K : PySem.W.Frag} {p : Addr} {ds : List D} {vs : List V} {k : Bool} {g : Gh} (hK : K = S.K) (h : g.F p = some (.lst vs) ∨ (k = false ∧ g.G p = some (.lst vs))) (fg : Same g.F g.G) (r : RpL S g.F ds vs) : WalkD S (Itl K p) ds k false g := by
  have w := walk_list (K := K) (a := p) (xs := vs)
  rw [← r.length] at w
  refine w.mono (fun H s => .of (s _ _ ?_)) fun i H x H' hi _ ⟨e1, e2⟩ => ?_
  · rcases h with h | ⟨rfl, h⟩
    · cases k
      · exact fg _ _ h
      · exact h
    · exact h
  · obtain ⟨d, h1, h2⟩ := r.get' e2
    exact ⟨d, h1, .inl ⟨e1, h2⟩⟩
theorem i_seq (hK : X.K = S.K) (h : PE X e (rdE S B M W .clean f)) : PI X tg e (rdI S B M W true false (iSeq f)) :=
  PI.imp (pi_any h) fun r H R ⟨g, m, j, P, E, ok, hf, q, xo⟩ => by
    refine ⟨g, m, j, _, E, ok, hf, fun d j1 g1 v H1 hh l1 ok1 w => ?_, xo⟩
    obtain ⟨xs, hx, p⟩ := hh
    unfold seqL at hx
    split at hx
    · cases hx
      obtain ⟨a, vs, rfl, ha, ra⟩ := lst_of w
      exact .inl ⟨a, rfl, ⟨vs, .of ((ok1.b.fg.trans ok1.b.gh) _ _ ha)⟩, q _ _ g1 H1 _ p l1 ok1 (walkD_seq hK (.inl ha) ok1.b.fg ra)⟩
    · cases hx
      obtain ⟨a, vs, rfl, ha, ra⟩ := tup_of w
      refine .inr (.inl ⟨a, rfl, ⟨vs, by rw [hK]; exact sqT_same (ok1.b.fg.trans ok1.b.gh) ha.t⟩, q _ _ g1 H1 _ p l1 ok1 ?_⟩)
      have w := walk_tup (K := X.K) (a := a) (xs := vs)
      rw [← ra.length] at w
      refine w.mono (fun H s => by rw [hK]; exact sqT_same s ha.t) fun i H x H' hi _ ⟨e1, e2⟩ => ?_
      obtain ⟨d, h1, h2⟩ := ra.get' e2
      exact ⟨d, h1, .inl ⟨e1, h2⟩⟩
    · rename_i z
      cases hx
      rw [str_of w]
      refine .inr (.inr ⟨_, rfl, q _ _ g1 H1 _ p l1 ok1 ?_⟩)
      have w := walk_str (z := z)
      have el : (z.cps.toList.map fun c => D.str ⟨#[c]⟩).length = z.cps.size := by simp
      unfold WalkD
      rw [el]
      refine w.mono (fun H s => trivial) fun i H x H' hi _ ⟨e1, c, e2, e3⟩ => ?_
      refine ⟨.str ⟨#[c]⟩, ?_, .inl ⟨e1, by rw [e3]; exact .str _⟩⟩
      rw [List.getElem?_map]
      simp [e2]
    · cases hx
/-- an owned list, walked where it does not change -/
theorem i_own {i : Nat} {x : Str} (hK : X.K = S.K) (hM : M i = true) (hN : X.N[i]? = some x) (hv : Vis X.env.scope x) (hd : (x == ("__debug__" : Str)) = false) (hcd : (x == ("__classdict__" : Str)) = false) : PI X tg (.Name x pos) (rdI S B M W false false (iSeq (eVar i))) :=
  PI.imp (pi_list (pe_var hN hv hd hcd)) fun r H R ⟨g, m, j, P, E, ok, hf, q, xo⟩ => by
    obtain ⟨d, he, ys, hy, p⟩ := hf
    obtain ⟨a, h1, n, ⟨xs, vs, rfl, e2, t⟩ | ⟨kds, kvs, rfl, _⟩ | ⟨kds, kvs, rfl, _⟩⟩ := ok.s.ow i d he hM
    · cases hy
      exact ⟨_, h1, a, rfl, ⟨vs, .of (ok.b.gh _ _ e2)⟩, q _ _ g H _ p (Le.refl g) ok (walkD_seq hK (.inr ⟨rfl, e2⟩) ok.b.fg t)⟩
    · cases hy
    · cases hy
theorem walkD_rng {lo : Int} {n : Nat} {g : Gh} {k : Bool} : WalkD S (Itr lo n) (rngD lo n) k false g := by
  unfold WalkD
  rw [rngD_length]
  exact (walk_range (lo := lo) (n := n)).mono (fun _ _ => trivial) fun i H x H' hi _ ⟨e1, e2⟩ => ⟨_, rngD_get hi, .inl ⟨e1, by rw [e2]; exact .int _⟩⟩
theorem i_rng1 (hg : Gl X "range") (hm : X.mg "range" = none) (ha : PE X a (rdE S B M W .mix fa)) (hs : starEach [a] X.env = [(false, eval a X.env)]) : PI X tg (.Call (.Name "range" p) [a] [] pos) (rdI S B M W true false (iRng1 fa)) :=
  PI.imp (pi_range1 hg hm (pa_cons ha pa_nil hs) hs) fun r H R ⟨g, m, j, P, E, ok, hf, q, xo⟩ => by
    have hl : LIM = 2 ^ 61 := rfl
    exact ⟨g, m, j, _, E, ok, hf, fun d j1 g1 v H1 ⟨n, ed, c1, c2, p⟩ l1 ok1 w => ⟨n, by subst ed; rw [int_of w], by omega, by omega, q _ _ g1 H1 _ p l1 ok1 walkD_rng⟩, xo⟩
theorem enumD_length (xs : List D) : (enumD xs).length = xs.length := by unfold enumD; simp
theorem enumD_get {xs : List D} {i : Nat} {d : D} (h : xs[i]? = some d) : (enumD xs)[i]? = some (.tup [.int (i : Nat), d]) := by
  unfold enumD
  rw [List.getElem?_map, List.getElem?_zipIdx, h]
  simp
end
end Mp

/-! Mp6: targets, comprehensions, list(range(..)). -/
namespace Mp
open PySem PySem.Spec L2
variable {J : Type}

section
variable {S : Js J} {B : Bs} {M : Nat → Bool} {X : Cx} {g g' : Gh} {r : St} {m : Sd} {H : Hp} {j : J} {i : Nat} {d : D} {v : V}
theorem Slots.set_fr (h : Slots S g M r m) (hM : M i = false) (rp : Rp S g.F d v) : Slots S g M (r.set i (some v)) (m.set i (some d)) := by
  have get : ∀ {k : Nat} {e : D}, (m.set i (some d))[k]? = some (some e) → (k = i ∧ e = d ∧ i < m.length) ∨ (k ≠ i ∧ m[k]? = some (some e)) := fun {k e} q => by
    by_cases hk : k = i
    · subst hk
      by_cases hl : k < m.length
      · rw [List.getElem?_set_self hl] at q
        cases q
        exact .inl ⟨rfl, rfl, hl⟩
      · rw [List.getElem?_eq_none (by simpa using hl)] at q
        cases q
    · rw [List.getElem?_set_ne (Ne.symm hk)] at q
      exact .inr ⟨hk, q⟩
  refine ⟨by simpa using h.len, fun k e q hk => ?_, fun k e q hk => ?_, fun k l a e e' q1 q2 hk hl h1 h2 => ?_⟩
  · rcases get q with ⟨rfl, rfl, hl⟩ | ⟨hn, q⟩
    · exact ⟨v, by rw [List.getElem?_set_self (by rw [h.len]; exact hl)], rp⟩
    · obtain ⟨w, h1, h2⟩ := h.fr k e q hk
      exact ⟨w, by rw [List.getElem?_set_ne (Ne.symm hn)]; exact h1, h2⟩
  · rcases get q with ⟨rfl, rfl, hl⟩ | ⟨hn, q⟩
    · rw [hM] at hk; cases hk
    · obtain ⟨w, h1, h2⟩ := h.ow k e q hk
      exact ⟨w, by rw [List.getElem?_set_ne (Ne.symm hn)]; exact h1, h2⟩
  · rcases get q1 with ⟨rfl, rfl, _⟩ | ⟨n1, q1⟩
    · rw [hM] at hk; cases hk
    · rcases get q2 with ⟨rfl, rfl, _⟩ | ⟨n2, q2⟩
      · rw [hM] at hl; cases hl
      · rw [List.getElem?_set_ne (Ne.symm n1)] at h1
        rw [List.getElem?_set_ne (Ne.symm n2)] at h2
        exact h.dj k l a e e' q1 q2 hk hl h1 h2
/-- an owned thing comes to a slot -/
theorem Slots.set_ow {a : Addr} (h : Slots S g M r m) (hM : M i = true) (o : Own S g d a) (apart : ∀ k e, k ≠ i → M k = true → m[k]? = some (some e) → r[k]? ≠ some (some (.ref a))) : Slots S g M (r.set i (some (.ref a))) (m.set i (some d)) := by
  have get : ∀ {k : Nat} {e : D}, (m.set i (some d))[k]? = some (some e) → (k = i ∧ e = d ∧ i < m.length) ∨ (k ≠ i ∧ m[k]? = some (some e)) := fun {k e} q => by
    by_cases hk : k = i
    · subst hk
      by_cases hl : k < m.length
      · rw [List.getElem?_set_self hl] at q
        cases q
        exact .inl ⟨rfl, rfl, hl⟩
      · rw [List.getElem?_eq_none (by simpa using hl)] at q
        cases q
    · rw [List.getElem?_set_ne (Ne.symm hk)] at q
      exact .inr ⟨hk, q⟩
  refine ⟨by simpa using h.len, fun k e q hk => ?_, fun k e q hk => ?_, fun k l b e e' q1 q2 hk hl h1 h2 => ?_⟩
  · rcases get q with ⟨rfl, rfl, hl⟩ | ⟨hn, q⟩
    · rw [hM] at hk; cases hk
    · obtain ⟨w, h1, h2⟩ := h.fr k e q hk
      exact ⟨w, by rw [List.getElem?_set_ne (Ne.symm hn)]; exact h1, h2⟩
  · rcases get q with ⟨rfl, rfl, hl⟩ | ⟨hn, q⟩
    · exact ⟨a, by rw [List.getElem?_set_self (by rw [h.len]; exact hl)], o⟩
    · obtain ⟨w, h1, h2⟩ := h.ow k e q hk
      exact ⟨w, by rw [List.getElem?_set_ne (Ne.symm hn)]; exact h1, h2⟩
  · rcases get q1 with ⟨rfl, rfl, hl1⟩ | ⟨n1, q1'⟩
    · rcases get q2 with ⟨rfl, rfl, _⟩ | ⟨n2, q2⟩
      · rfl
      · rw [List.getElem?_set_self (by rw [h.len]; exact hl1)] at h1
        cases h1
        rw [List.getElem?_set_ne (Ne.symm n2)] at h2
        exact absurd h2 (apart l e' n2 hl q2)
    · rcases get q2 with ⟨rfl, rfl, hl2⟩ | ⟨n2, q2⟩
      · rw [List.getElem?_set_self (by rw [h.len]; exact hl2)] at h2
        cases h2
        rw [List.getElem?_set_ne (Ne.symm n1)] at h1
        exact absurd h1 (apart k e n1 hk (by assumption))
      · rw [List.getElem?_set_ne (Ne.symm n1)] at h1
        rw [List.getElem?_set_ne (Ne.symm n2)] at h2
        exact h.dj k l b e e' q1' q2 hk hl h1 h2
/-- what is seen, not frozen, and none of the slots' -/
theorem Slots.apart_fresh {a : Addr} (h : Slots S g M r m) (n : g.G a = none) : ∀ k e, k ≠ i → M k = true → m[k]? = some (some e) → r[k]? ≠ some (some (.ref a)) := fun k e _ hk q z => by
  obtain ⟨b, h1, h2⟩ := h.ow k e q hk
  rw [z] at h1
  cases h1
  obtain ⟨o, ho⟩ := h2.in_g
  rw [n] at ho
  cases ho
end

/-! ### targets -/
abbrev Gv := D → Sd → Option Sd
abbrev Gvs := List D → Sd → Option Sd
def gNm (i : Nat) : Gv := fun d m => some (m.set i (some d))
def gsNil : Gvs := fun ds m => match ds with | [] => some m | _ => none
def gsCons (γ : Gv) (γs : Gvs) : Gvs := fun ds m => match ds with
  | d :: ds => match γ d m with
    | some m1 => γs ds m1
    | none => none
  | [] => none
def gTp (γs : Gvs) : Gv := fun d m => match d with
  | .tup ds => γs ds m
  | _ => none
/-- an item of a walk: data, or (w) a tuple just made of data -/
def RpX (S : Js J) (F : Hp) (w : Bool) (d : D) (v : V) : Prop := Rp S F d v ∨ (w = true ∧ ∃ T vs es, v = .ref T ∧ F T = some (.tup vs) ∧ d = .tup es ∧ RpL S F es vs)
section
variable (S : Js J) (B : Bs) (M : Nat → Bool)
def rdG (w : Bool) (ks : List Nat) (γ : Gv) : TG := fun v r H Q => ∃ g m j d m', Ok S B g M r H m j ∧ RpX S g.F w d v ∧ γ d m = some m' ∧ ∀ r', Ok S B g M r' H m' j → r'.length = r.length → (∀ k, k ∉ ks → r'[k]? = r[k]?) → Q r' H
def rdGs (ks : List Nat) (γ : Gvs) : TGs := fun vs r H Q => ∃ g m j ds m', Ok S B g M r H m j ∧ RpL S g.F ds vs ∧ γ ds m = some m' ∧ ∀ r', Ok S B g M r' H m' j → r'.length = r.length → (∀ k, k ∉ ks → r'[k]? = r[k]?) → Q r' H
end
theorem PG.imp {X : Cx} {e : Expr} {t t' : TG} (h : PG X e t) (i : ∀ v r H Q, t' v r H Q → t v r H Q) : PG X e t' := ⟨fun pins s σ H v u Q I rv q => h.run pins s σ H v u Q I rv (i _ _ _ _ q)⟩
theorem PGs.imp {X : Cx} {e : List Expr} {t t' : TGs} (h : PGs X e t) (i : ∀ v r H Q, t' v r H Q → t v r H Q) : PGs X e t' := ⟨fun pins s σ H v u Q I rv q => h.run pins s σ H v u Q I rv (i _ _ _ _ q)⟩
section
variable {S : Js J} {B : Bs} {M : Nat → Bool} {X : Cx} {e : Expr} {es : List Expr} {pos : Pos}
theorem g_name {i : Nat} {x : Str} (hM : M i = false) (hN : X.N.Nodup) (hi : X.N[i]? = some x) (hx : Loc X.env.scope x) (hf : X.fn x = true ∨ X.env.scope.names.lookup x = some .local) : PG X (.Name x pos) (rdG S B M false [i] (gNm i)) :=
  PG.imp (pg_name hN hi hx hf) fun v r H Q ⟨g, m, j, d, m', ok, rp, e, q⟩ => by
    unfold gNm at e
    cases e
    have rp : Rp S g.F d v := rp.elim id fun z => nomatch z.1
    exact q _ ⟨ok.b, ok.s.set_fr hM rp⟩ (by simp) fun k hk => List.getElem?_set_ne (by simpa using fun z => hk (by simp [z]))
theorem gs_nil {ks : List Nat} : PGs X [] (rdGs S B M ks gsNil) := PGs.imp pgs_nil fun vs r H Q ⟨g, m, j, ds, m', ok, rp, e, q⟩ => by
  unfold gsNil at e
  split at e
  · cases e
    cases rp
    exact ⟨rfl, q r ok rfl fun _ _ => rfl⟩
  · cases e
theorem gs_cons {ks ks' : List Nat} {γ : Gv} {γs : Gvs} (h1 : PG X e (rdG S B M false ks γ)) (h2 : PGs X es (rdGs S B M ks' γs)) (hs : (assignEach (e :: es) X.env).map (·.2) = assign e X.env :: (assignEach es X.env).map (·.2)) :
    PGs X (e :: es) (rdGs S B M (ks ++ ks') (gsCons γ γs)) := PGs.imp (pgs_cons h1 h2 hs) fun vs r H Q ⟨g, m, j, ds, m', ok, rp, e, q⟩ => by
  unfold gsCons at e
  split at e
  · split at e
    · cases rp with
      | cons rp1 rp2 =>
        refine ⟨_, _, rfl, g, m, j, _, _, ok, .inl rp1, by assumption, fun r1 ok1 l1 k1 => ⟨g, _, j, _, _, ok1, rp2, e, fun r2 ok2 l2 k2 => ?_⟩⟩
        refine q r2 ok2 (l2.trans l1) fun k hk => ?_
        rw [List.mem_append, not_or] at hk
        exact (k2 k hk.2).trans (k1 k hk.1)
    · cases e
  · cases e
theorem g_tup {w : Bool} {kt n : Nat} {ks : List Nat} {γs : Gvs} (hK : X.K = S.K) (hc : X.calm = true) (h : PGs X es (rdGs S B M ks γs)) (hn : (assignEach es X.env).length = n) (hst : (assignEach es X.env).findIdx? (·.1) = none) (hl : ∀ ds m m', γs ds m = some m' → ds.length = n) :
    PG X (.Tuple es kt pos) (rdG S B M w ks (gTp γs)) := PG.imp (pg_tup hc h hn hst) fun v r H Q ⟨g, m, j, d, m', ok, rp, e, q⟩ => by
  unfold gTp at e
  split at e
  · rcases rp with rp | ⟨_, T, vs, es, rfl, hT, he, ra⟩
    · obtain ⟨a, vs, rfl, ha, ra⟩ := tup_of rp
      exact ⟨a, vs, rfl, by rw [hK]; exact sqT_same (ok.b.fg.trans ok.b.gh) ha.t, by rw [← ra.length]; exact hl _ _ _ e, g, m, j, _, _, ok, ra, e, q⟩
    · cases he
      exact ⟨T, vs, rfl, .of ((ok.b.fg.trans ok.b.gh) _ _ hT), by rw [← ra.length]; exact hl _ _ _ e, g, m, j, _, _, ok, ra, e, q⟩
  · cases e
end

/-! ### comprehensions -/
theorem wipe_get {σ : St} : ∀ (vs : List Nat) (i : Nat), (wipe σ vs)[i]? = if i ∈ vs then (σ[i]?).map (fun _ => none) else σ[i]?
  | [], i => by simp [wipe]
  | v :: vs, i => by
    unfold wipe
    by_cases h : i = v
    · subst h
      rw [if_pos List.mem_cons_self]
      by_cases hl : i < σ.length
      · rw [List.getElem?_set_self (by rw [wipe_length]; exact hl), List.getElem?_eq_getElem hl]; rfl
      · rw [List.getElem?_eq_none (by rw [List.length_set, wipe_length]; omega), List.getElem?_eq_none (by omega)]; rfl
    · rw [List.getElem?_set_ne (Ne.symm h), wipe_get vs i]
      by_cases hm : i ∈ vs
      · rw [if_pos hm, if_pos (List.mem_cons_of_mem _ hm)]
      · rw [if_neg hm, if_neg (by simp [h, hm])]
theorem wipe_congr {r r' : St} {vs : List Nat} (hl : r'.length = r.length) (h : ∀ k, k ∉ vs → r'[k]? = r[k]?) : wipe r' vs = wipe r vs := by
  apply List.ext_getElem?
  intro i
  rw [wipe_get, wipe_get]
  by_cases hm : i ∈ vs
  · rw [if_pos hm, if_pos hm]
    by_cases hi : i < r.length
    · rw [List.getElem?_eq_getElem hi, List.getElem?_eq_getElem (by omega)]; rfl
    · rw [List.getElem?_eq_none (by omega), List.getElem?_eq_none (by omega)]
  · rw [if_neg hm, if_neg hm]; exact h i hm
theorem wipe_wipe (r : St) (vs : List Nat) : wipe (wipe r vs) vs = wipe r vs := wipe_congr (wipe_length _ _) fun k hk => by rw [wipe_get, if_neg hk]
def wipeD (m : Sd) : List Nat → Sd
  | [] => m
  | v :: vs => (wipeD m vs).set v none
theorem wipeD_length (m : Sd) : ∀ vs, (wipeD m vs).length = m.length
  | [] => rfl
  | v :: vs => by unfold wipeD; rw [List.length_set, wipeD_length]
theorem wipeD_some {m : Sd} {i : Nat} {d : D} : ∀ {vs : List Nat}, (wipeD m vs)[i]? = some (some d) → m[i]? = some (some d) ∧ i ∉ vs
  | [], h => ⟨h, by simp⟩
  | v :: vs, h => by
    unfold wipeD at h
    by_cases hi : v = i
    · subst hi
      by_cases hv : v < (wipeD m vs).length
      · rw [List.getElem?_set_self hv] at h; cases h
      · rw [List.getElem?_eq_none (by simpa using hv)] at h; cases h
    · rw [List.getElem?_set_ne hi] at h
      obtain ⟨h1, h2⟩ := wipeD_some h
      exact ⟨h1, by simp only [List.mem_cons, not_or]; exact ⟨fun e => hi e.symm, h2⟩⟩
theorem Slots.wipe {S : Js J} {g : Gh} {M : Nat → Bool} {r : St} {m : Sd} (h : Slots S g M r m) (vs : List Nat) : Slots S g M (wipe r vs) (wipeD m vs) :=
  ⟨by rw [wipe_length, wipeD_length]; exact h.len, fun i d e q => by
    obtain ⟨e, n⟩ := wipeD_some e
    obtain ⟨v, h1, h2⟩ := h.fr i d e q
    exact ⟨v, by rw [wipe_get, if_neg n]; exact h1, h2⟩, fun i d e q => by
    obtain ⟨e, n⟩ := wipeD_some e
    obtain ⟨v, h1, h2⟩ := h.ow i d e q
    exact ⟨v, by rw [wipe_get, if_neg n]; exact h1, h2⟩, fun i k a d e q1 q2 hi hk h1 h2 => by
    obtain ⟨q1, n1⟩ := wipeD_some q1
    obtain ⟨q2, n2⟩ := wipeD_some q2
    rw [wipe_get, if_neg n1] at h1
    rw [wipe_get, if_neg n2] at h2
    exact h.dj i k a d e q1 q2 hi hk h1 h2⟩
section
variable {S : Js J} {B : Bs} {g : Gh} {H : Hp} {j : J} {p : Addr}
/-- a thing that nobody sees is written -/
theorem OkB.out (k : OkB S B g H j) {o o' : HO} (h : H p = some o') (ho : ∀ x y, o' ≠ .frz x y) (n1 : g.G p = none) (n2 : ¬ g.A p) (n3 : B.H0 p = none) : OkB S B g (upd H p o) j := by
  refine ⟨k.fg, fun b u e => ?_, k.ga, S.frame k.jr (Same.refl _) fun b z => upd_ne fun q => n2 (q ▸ z), k.f0, k.g0, k.a0, fun b u e n => ?_, fun b e => ?_, ?_⟩
  · rw [upd_ne (ne_of_none e n1)]; exact k.gh b u e
  · rw [upd_ne (ne_of_none e n3)]; exact k.h0 b u e n
  · by_cases hb : b = p
    · subst hb; rw [upd_same] at e; cases e
    · rw [upd_ne hb] at e; exact k.h1 b e
  · obtain ⟨o1, u1, e1⟩ := k.sm
    refine ⟨o1, u1, ?_⟩
    rw [upd_ne fun z => ho o1 u1 (by rw [z, h] at e1; exact Option.some.inj e1)]
    exact e1
/-- .. is new to the heap, and nobody sees it -/
theorem OkB.lay (k : OkB S B g H j) (o : HO) (h : H p = none) : OkB S B g (upd H p o) j := by
  obtain ⟨_, n1, n2, n3⟩ := k.hn h
  refine ⟨k.fg, fun b u e => ?_, k.ga, S.frame k.jr (Same.refl _) fun b z => upd_ne fun q => n2 (q ▸ z), k.f0, k.g0, k.a0, fun b u e n => ?_, fun b e => ?_, ?_⟩
  · rw [upd_ne (ne_of_none e n1)]; exact k.gh b u e
  · rw [upd_ne (ne_of_none e n3)]; exact k.h0 b u e n
  · by_cases hb : b = p
    · subst hb; rw [upd_same] at e; cases e
    · rw [upd_ne hb] at e; exact k.h1 b e
  · obtain ⟨o1, u1, e1⟩ := k.sm
    exact ⟨o1, u1, by rw [upd_ne (ne_of_none e1 h)]; exact e1⟩
/-- .. is seen from now on -/
theorem OkB.adopt (k : OkB S B g H j) {o : HO} (h : H p = some o) (n1 : g.G p = none) (n2 : ¬ g.A p) (n3 : B.H0 p = none) : OkB S B (g.see p o) H j := by
  refine ⟨k.fg.trans (same_new n1), fun b u e => ?_, fun b u e => ?_, k.jr, k.f0, fun b u e => ?_, k.a0, k.h0, k.h1, k.sm⟩
  · have e' : upd g.G p o b = some u := e
    by_cases hb : b = p
    · subst hb; rw [upd_same] at e'; rw [h]; exact e'
    · rw [upd_ne hb] at e'; exact k.gh b u e'
  · have e' : upd g.G p o b = some u := e
    by_cases hb : b = p
    · subst hb; exact n2
    · rw [upd_ne hb] at e'; exact k.ga b u e'
  · have e' : upd g.G p o b = some u := e
    by_cases hb : b = p
    · subst hb; exact .inr n3
    · rw [upd_ne hb] at e'; exact k.g0 b u e'
end

/-- what is seen, without one thing -/
def Gh.hide (g : Gh) (p : Addr) : Gh := ⟨g.F, fun b => if b = p then none else g.G b, g.A⟩
section
variable {S : Js J} {B : Bs} {g g' : Gh} {H : Hp} {j : J} {p : Addr}
theorem hide_sub {g : Gh} {p : Addr} : Same (g.hide p).G g.G := fun b o e => by
  have e' : (if b = p then none else g.G b) = some o := e
  by_cases hb : b = p
  · rw [if_pos hb] at e'; cases e'
  · rw [if_neg hb] at e'; exact e'
theorem OkB.hide (k : OkB S B g H j) (n : g.F p = none) : OkB S B (g.hide p) H j :=
  ⟨fun b o e => by
    show (if b = p then none else g.G b) = some o
    rw [if_neg (ne_of_none e n)]
    exact k.fg b o e, hide_sub.trans k.gh, fun b o e => k.ga b o (hide_sub b o e), k.jr, k.f0, fun b o e => k.g0 b o (hide_sub b o e), k.a0, k.h0, k.h1, k.sm⟩
theorem Le.hide {o : HO} (l : Le (g.see p o) g') (n : g.G p = none) : Le g (g'.hide p) :=
  ⟨l.f, fun b u e => by
    have hb : b ≠ p := ne_of_none e n
    show (if b = p then none else g'.G b) = some u
    rw [if_neg hb]
    refine l.g b u ?_
    show upd g.G p o b = some u
    rw [upd_ne hb]; exact e, fun b u e => by
    rcases l.n b u e with h | h
    · exact .inl h
    · right
      have h' : upd g.G p o b = none := h
      by_cases hb : b = p
      · subst hb; rw [upd_same] at h'; cases h'
      · rw [upd_ne hb] at h'; exact h'⟩
end

def compW (wm : Sd) (γ : Gv) (ft : Tv J) (fe : Ev J) : List D → List D → J → (List D → J → Prop) → Prop
  | [], acc, j, P => P acc j
  | d :: ds, acc, j, P => ∃ m2, γ d wm = some m2 ∧ ft m2 j (fun b j1 => if b = true then fe m2 j1 (fun y j2 => compW wm γ ft fe ds (acc ++ [y]) j2 P) xNo else compW wm γ ft fe ds acc j1 P) xNo
def eComp (vs : List Nat) (fi : Iv J) (γ : Gv) (ft : Tv J) (fe : Ev J) (m : Sd) (j : J) (P : D → J → Prop) (E : XP J) : Prop :=
  fi m j (fun ds j1 => ds.length ≤ LINE ∧ compW (wipeD m vs) γ ft fe ds [] j1 (fun ys j2 => P (.lst ys) j2)) E
theorem compW_mo {wm : Sd} {γ : Gv} {ft : Tv J} {fe : Ev J} [ht : MoT ft] [he : MoE fe] : ∀ {ds acc : List D} {j : J} {P P' : List D → J → Prop}, compW wm γ ft fe ds acc j P → (∀ ys j', P ys j' → P' ys j') → compW wm γ ft fe ds acc j P'
  | [], _, _, _, _, h, q => q _ _ h
  | _ :: _, _, _, _, _, ⟨m2, e, h⟩, q => ⟨m2, e, ht.mo h (fun _ _ p => ite_mono p (fun p => he.mo p (fun _ _ p => compW_mo p q) fun _ _ _ x => x) fun p => compW_mo p q) fun _ _ _ x => x⟩
instance {vs : List Nat} {fi : Iv J} {γ : Gv} {ft : Tv J} {fe : Ev J} [hi : MoA fi] [ht : MoT ft] [he : MoE fe] : MoE (eComp vs fi γ ft fe) := ⟨fun h q x => hi.mo h (fun _ _ ⟨l, p⟩ => ⟨l, compW_mo p fun _ _ p => q _ _ p⟩) x⟩
section
variable {S : Js J} {B : Bs} {M : Nat → Bool} {W : WX} {X : Cx} {elt tg iter : Expr} {ifs : List Expr} {scope : Scope} {own : List (Str × Nat)} {pos : Pos} {fi : Iv J} {γ : Gv} {ft : Tv J} {fe : Ev J} {ks : List Nat} {c w : Bool}
theorem ts_nil {X : Cx} : PTs X [] (rdT S B M W tYesD) := ⟨fun pins s σ H Q I ⟨g, m, j, P, E, ok, hf, q, _⟩ => pts_nil.run pins s σ H Q I (q _ _ g H hf (Le.refl g) ok)⟩
theorem lc_rd {R : St} {H : Hp} {Q : VK} (hks : ∀ k ∈ ks, k ∈ own.map (·.2)) (h : rdE S B M W .fresh (eComp (own.map (·.2)) fi γ ft fe) R H Q) :
    tLc (rdI S B M W c w fi) (rdG S B M w ks γ) (rdT S B M W0 ft) (rdE S B M W0 .clean fe) (own.map (·.2)) R H Q := by
  obtain ⟨g, m, j, P, E, ok, hf, q, xo⟩ := h
  refine ⟨g, m, j, _, E, ok, hf, fun ds j1 g1 H1 Jt hh l1 ok1 wk => fun Dd nD => ?_, xo⟩
  obtain ⟨hl, h2⟩ := hh
  obtain ⟨n1, n2, n3, n4⟩ := ok1.b.hn nD
  refine lc_it wk (fun i Hh => ∃ (gi : Gh) (ji : J) (accD : List D) (accV : List V), Le g1 gi ∧ Ok S B gi M (wipe R (own.map (·.2))) Hh (wipeD m (own.map (·.2))) ji ∧ Hh Dd = some (.lst accV) ∧ gi.G Dd = none ∧ ¬ gi.A Dd ∧
    RpL S gi.F accD accV ∧ compW (wipeD m (own.map (·.2))) γ ft fe (ds.drop i) accD ji (fun ys j2 => P (.lst ys) j2) ∧ accD.length ≤ i) ?_ ?_ ?_ ?_
  · exact ⟨g1, j1, [], [], Le.refl _, ⟨ok1.b.lay _ nD, ok1.s.wipe _⟩, upd_same, n2, n3, .nil, by rw [List.drop_zero]; exact h2, Nat.le_refl _⟩
  · rintro i Hh hi ⟨gi, ji, accD, accV, li, oki, hD, hDG, hDA, ra, hc, ha⟩
    exact (hp_le li c).trans (oki.b.sub c)
  · rintro i x Hh Hh' hi ⟨gi, ji, accD, accV, li, oki, hD, hDG, hDA, ra, hc, ha⟩ ⟨dd, hdd, y⟩
    have hdrop : ds.drop i = dd :: ds.drop (i + 1) := by
      obtain ⟨hlt, he⟩ := List.getElem?_eq_some_iff.mp hdd
      rw [List.drop_eq_getElem_cons hlt, he]
    rw [hdrop] at hc
    obtain ⟨m2, hm2, hc⟩ := hc
    -- the new list is seen while the item is made
    have la : Le gi (gi.see Dd (.lst accV)) := Le.see hDG
    have oka : Ok S B (gi.see Dd (.lst accV)) M (wipe R (own.map (·.2))) Hh (wipeD m (own.map (·.2))) ji := ⟨oki.b.adopt hD hDG hDA n4, oki.s.le la⟩
    have item : ∃ g2, Le (gi.see Dd (.lst accV)) g2 ∧ Ok S B g2 M (wipe R (own.map (·.2))) Hh' (wipeD m (own.map (·.2))) ji ∧ RpX S g2.F w dd x := by
      rcases y with ⟨rfl, rp⟩ | ⟨hw, T, vs, es, rfl, hT, rfl, rfl, rl⟩ | ⟨T, o, vs, es, rfl, hT, hdo, rfl, rfl, rl⟩
      · exact ⟨_, Le.refl _, oka, .inl (rp.mono li.f)⟩
      · obtain ⟨t1, t2, t3, t4⟩ := oka.b.hn hT
        exact ⟨_, Le.frz oka.b.fg t2, ⟨oka.b.frz _ hT, oka.s.le (Le.frz oka.b.fg t2)⟩, .inr ⟨hw, T, vs, es, rfl, upd_same, rfl, (rl.mono li.f).mono (same_new t1)⟩⟩
      · obtain ⟨t1, t2, t3, t4⟩ := oka.b.hn hT
        exact ⟨_, Le.frz oka.b.fg t2, ⟨oka.b.frz _ hT, oka.s.le (Le.frz oka.b.fg t2)⟩, .inl (.tup (.inl ⟨o, upd_same, hdo⟩) ((rl.mono li.f).mono (same_new t1)))⟩
    obtain ⟨g2, l2, ok2, rp2⟩ := item
    -- behind the turn
    have back : ∀ (g5 : Gh) (H5 : Hp) (j5 : J) (o : List V), Le g2 g5 → OkB S B g5 H5 j5 → H5 Dd = some (.lst accV) ∧ Le gi (g5.hide Dd) ∧ OkB S B (g5.hide Dd) (upd H5 Dd (.lst o)) j5 ∧ (g5.hide Dd).G Dd = none ∧ ¬ (g5.hide Dd).A Dd := fun g5 H5 j5 o l5 ok5 => by
      have lz := l2.trans l5
      have hG5 : g5.G Dd = some (.lst accV) := lz.g _ _ upd_same
      have hF5 : g5.F Dd = none := by
        cases z : g5.F Dd with
        | none => rfl
        | some u =>
          rcases lz.n Dd u z with z | z
          · have z' : gi.F Dd = some u := z
            rw [oki.b.fg.free hDG] at z'; cases z'
          · have z' : upd gi.G Dd (.lst accV) Dd = none := z
            rw [upd_same] at z'; cases z'
      have hA5 : ¬ g5.A Dd := ok5.ga _ _ hG5
      refine ⟨ok5.gh _ _ hG5, lz.hide hDG, ?_, if_pos rfl, hA5⟩
      exact (ok5.hide hF5).out (ok5.gh _ _ hG5) (by intro x y z; cases z) (if_pos rfl) hA5 n4
    refine ⟨g2, _, ji, dd, m2, ok2, rp2, hm2, fun r3 ok3 len3 k3 => ⟨?_, ?_⟩⟩
    · rw [wipe_congr (r := wipe R (own.map (·.2))) len3 fun k hk => k3 k fun z => hk (hks k z), wipe_wipe]
    · refine ⟨g2, m2, ji, _, xNo, ok3, hc, fun b j3 g4 H4 p l4 ok4 => ite_mono p (fun p => ?_) (fun p => ?_), XOut.no⟩
      · refine ⟨g4, m2, _, _, xNo, ok4, p, fun y j4 g5 v5 H5 p l5 ok5 w5 => ?_, XOut.no⟩
        obtain ⟨b1, b2, b3, b4, b5⟩ := back g5 H5 j4 (accV ++ [v5]) (l4.trans l5) ok5.b
        refine ⟨accV, b1, ?_, g5.hide Dd, j4, accD ++ [y], accV ++ [v5], li.trans b2, ⟨b3, oki.s.le b2⟩, upd_same, b4, b5, (ra.mono b2.f).append (.cons w5 .nil), p, ?_⟩
        · rw [← ra.length]
          have := line_ok
          omega
        · rw [List.length_append]; simp only [List.length_cons, List.length_nil]; omega
      · obtain ⟨b1, b2, b3, b4, b5⟩ := back g4 H4 j3 accV l4 ok4.b
        have eH : upd H4 Dd (.lst accV) = H4 := by
          funext b
          by_cases hb : b = Dd
          · subst hb; rw [upd_same, b1]
          · rw [upd_ne hb]
        rw [eH] at b3
        exact ⟨g4.hide Dd, j3, accD, accV, li.trans b2, ⟨b3, oki.s.le b2⟩, b1, b4, b5, ra.mono b2.f, p, by omega⟩
  · rintro Hh ⟨gi, ji, accD, accV, li, oki, hD, hDG, hDA, ra, hc, ha⟩
    rw [List.drop_length] at hc
    have hc : P (.lst accD) ji := hc
    have l2 : Le gi (gi.see Dd (.lst accV)) := Le.see hDG
    refine q _ _ (gi.see Dd (.lst accV)) _ Hh hc ((l1.trans li).trans l2) ⟨oki.b.adopt hD hDG hDA n4, ok1.s.le (li.trans l2)⟩ ⟨Dd, rfl, l1.g.free n2, ?_, .inl ⟨accD, accV, rfl, upd_same, ra⟩⟩
    exact oki.b.fg.free hDG
theorem e_comp (hc : X.calm = true) (hN : X.N.Nodup) (hi : PI X tg iter (rdI S B M W c w fi)) (ok : BlkOk X.N X.env.scope scope own) (hks : ∀ k ∈ ks, k ∈ own.map (·.2))
    (hg : ∀ (s : Shared) (H : Hp) (C : Addr) (cl : List (Str × Addr)) (fp : List Addr), PG (X.blk s H scope (compEnvC scope cl C X.env) fp) tg (rdG S B M w ks γ)) (ht : ∀ (s : Shared) (H : Hp) (C : Addr) (cl : List (Str × Addr)) (fp : List Addr), PTs (X.blk s H scope (compEnvC scope cl C X.env) fp) ifs (rdT S B M W0 ft))
    (he : ∀ (s : Shared) (H : Hp) (C : Addr) (cl : List (Str × Addr)) (fp : List Addr), PE (X.blk s H scope (compEnvC scope cl C X.env) fp) elt (rdE S B M W0 .clean fe)) (hs : ∀ x, foldedSetIterable iter X.env x = pure x) :
    PE X (.ListComp elt [⟨tg, iter, ifs, 0⟩] scope pos) (rdE S B M W .fresh (eComp (own.map (·.2)) fi γ ft fe)) :=
  PE.imp (pe_lc hc hN hi ok hg ht he hs) fun _ _ _ h => lc_rd hks h
end
end Mp

/-! Mp7: defs by data, their calls; statements. -/
namespace Mp
open PySem PySem.Spec L2
open PyProof.Rows hiding St
variable {J : Type}

/-! ### a def's promise, where no repr is under way -/
structure FnG (P : Program) (w : World) (K : PySem.W.Frag) (mg : Str → Option Value) (base : Heap) (CX : CXT) (k : Nat) (f : Addr) (fd : FuncData) (ps : List Str) (sp : Sp) : Prop where
  len : ∀ vs H Q E, sp vs H Q E → vs.length = ps.length
  run : ∀ (A : Around) (outer : List Env) (s : Shared) (H : Hp) (args : Args) (us : List Value) (vs : List V) (Q : VK) (E : XK), Room k A → A.guards = some [] → Env0 P w K mg base A outer s H → BindsTo s fd args (ps.zip us) → Vals vs us → sp vs H Q E →
    codeAny (model P w) A (.call (.ref f) args) (CR CX outer P w H s Q E) s
theorem FnG.mono {P : Program} {w : World} {K : PySem.W.Frag} {mg : Str → Option Value} {base : Heap} {CX : CXT} {j k : Nat} {f : Addr} {fd : FuncData} {ps : List Str} {sp : Sp} (F : FnG P w K mg base CX j f fd ps sp) (h : j ≤ k) :
    FnG P w K mg base CX k f fd ps sp := ⟨F.len, fun A outer s H args us vs Q E hr => F.run A outer s H args us vs Q E (hr.mono h)⟩
theorem FnG.imp {P : Program} {w : World} {K : PySem.W.Frag} {mg : Str → Option Value} {base : Heap} {CX : CXT} {k : Nat} {f : Addr} {fd : FuncData} {ps : List Str} {sp sp' : Sp} (F : FnG P w K mg base CX k f fd ps sp)
    (h : ∀ vs H Q E, sp' vs H Q E → sp vs H Q E) : FnG P w K mg base CX k f fd ps sp' :=
  ⟨fun vs H Q E q => F.len vs H Q E (h _ _ _ _ q), fun A outer s H args us vs Q E hr hg he hb hv hs => F.run A outer s H args us vs Q E hr hg he hb hv (h _ _ _ _ hs)⟩
theorem fnG_of {CX : CXT} {P : Program} {w : World} {K : PySem.W.Frag} {mg : Str → Option Value} {base : Heap} {k : Nat} {f : Addr} {name qual : Str} {params : Arguments} {body : List Stmt} {scope : Scope} {dV kV doc pm cdv ct oc : Value} {an od : Option Addr}
    {osl : Array (Option Value)} {N ps : List Str} {sp : Sp} (lk : K.lookup f = some ⟨oc, od, .func (PySem.W.fnOf name qual params body scope dV kV doc pm an cdv ct), osl⟩) (hcd : PySem.W.codeIn K cdv qual = true) (S : FnScope N ps scope)
    (len : ∀ vs H Q E, sp vs H Q E → vs.length = ps.length)
    (hbody : ∀ (A : Around) (outer : List Env) (s : Shared) (H : Hp) (vs : List V) (Q : VK) (E : XK), Room k (A.deeper (envOfC qual scope s.heap.objs.size f cdv)) → (A.deeper (envOfC qual scope s.heap.objs.size f cdv)).guards = some [] → sp vs H Q E →
      ∃ t, PSs (cxOf CX P w K mg base N qual scope f cdv A outer s H E) body t ∧ t { nx := fun _ H' => Q .non H', rt := Q } (start N vs) H) :
    FnG P w K mg base CX (k + 1) f (PySem.W.fnOf name qual params body scope dV kV doc pm an cdv ct) ps sp := by
  refine ⟨len, fun A outer s H args us vs Q E hr hgd e0 hb r hsp => ?_⟩
  have hl := len _ _ _ _ hsp
  have KX : K.In s.heap := e0.mod.kin.keeps fun b o e => (e0.bs b o e).1
  have lim : s.heap.NoLimit := e0.mod.nolimit.keeps fun b o e => (e0.bs b o e).1
  have hkind : ∀ y ∈ ps.zip us, scope.names.lookup y.1 = some .local ∨ (scope.names.lookup y.1 = some .cell ∧ ((cellsFrom (s.heap.objs.size + 1) scope.names []).lookup y.1).isSome = true) := fun ⟨n, v⟩ hy => by
    rcases S.par n (List.of_mem_zip hy).1 with q | q
    · exact .inl q
    · exact .inr ⟨q, PySem.W.cellsFrom_some _ _ _ (.inl q)⟩
  refine codeAny_call_function hr.depth (KX _ _ lk) rfl S.co S.gen rfl (PySem.W.codeRec_of KX hcd) (hb _ _ _ _ ?_)
  refine wpAny_newFunctionEnv_cells S.kind hkind fun env he s1 x => ?_
  subst he
  refine ⟨lim.keeps x.toInCall.keep, codeAny_func ?_⟩
  obtain ⟨t, ht, hq⟩ := hbody A outer s H vs Q E (hr.deeper _) hgd hsp
  have I : Inv (cxOf CX P w K mg base N qual scope f cdv A outer s H E) [] (start N vs) H s1 := inv_start S hr.hd e0 hl r x
  refine wpAny_mono (ht.run [] s1 (start N vs) H _ I hq) (fun fl s' hs => ?_) fun e s' hs => hs
  have fin : ∀ {σ' : St} {H' : Hp} {v : V} {u : Value}, Inv (cxOf CX P w K mg base N qual scope f cdv A outer s H E) [] σ' H' s' → RelV v u → Q v H' → CE outer P w H s Q u s' :=
    fun {σ' H' v u} J rv q => ⟨v, H', J.os, J.bare, J.base, J.hok, rv, q⟩
  cases fl with
  | ret u =>
    obtain ⟨v, σ', H', J, rv, q⟩ := hs
    exact fin J rv q
  | next =>
    obtain ⟨σ', H', J, q⟩ := hs
    exact fin (v := V.non) (u := Value.none) J rfl q
  | brk =>
    obtain ⟨_, _, _, q⟩ := hs
    exact False.elim q
  | cont =>
    obtain ⟨_, _, _, q⟩ := hs
    exact False.elim q
section
variable {X : Cx} {CX : CXT} {k : Nat} {f C : Addr} {fd : FuncData} {ps : List Str} {sp : Sp} {dvs : List V} {ds : List Value} {E : XK} {x m : Str} {p pos apos : Pos} {e o : Expr} {es : List Expr} {ta : TE} {t : TA}
theorem run_fnG {pins : List (Addr × Obj)} {σ : St} {H : Hp} {s : Shared} {Q : VK} {us : List Value} {vs : List V} (F : FnG X.prog X.w X.K X.mg X.base CX k f fd ps sp) (hr : Room k X.A) (hgd : X.A.guards = some []) (hb : Binds X.K fd ps ds) (hd : Vals dvs ds) (hx : Passes CX X E)
    (I : Inv X pins σ H s) (r : Vals vs us) (h : sp (vs ++ dvs) H Q E) : wpAny (model X.prog X.w) X.A (call (.ref f) us) (EP X pins σ Q) X.xe s := by
  have r2 : Vals (vs ++ dvs) (us ++ ds) := r.append hd
  have hl : (us ++ ds).length = ps.length := by rw [← r2.length]; exact F.len _ _ _ _ h
  refine wpAny_call (codeAny_mono (F.run X.A X.stack s H ⟨us, []⟩ (us ++ ds) (vs ++ dvs) Q E hr hgd I.env0 (hb s us I.kIn hl) r2 h) fun r s' hq => ?_)
  cases r with
  | error e => exact hx pins σ H s e s' I hq
  | ok fl =>
    cases fl with
    | ret u => exact I.after hq
    | next => exact False.elim hq
    | brk => exact False.elim hq
    | cont => exact False.elim hq
theorem pe_callG (F : FnG X.prog X.w X.K X.mg X.base CX k f fd ps sp) (hr : Room k X.A) (hgd : X.A.guards = some []) (hg : Gl X x) (hm : X.mg x = some (.ref f)) (hk : PySem.W.keepIn X.K (.ref f) = true) (hb : Binds X.K fd ps ds) (hd : Vals dvs ds) (hx : Passes CX X E)
    (ha : PA X (e :: es) t) (hdb : (x == ("__debug__" : Str)) = false) (he : starEach (e :: es) X.env = (false, eval e X.env) :: starEach es X.env) (hpl : (backTo pos (starEach es X.env)).any (·.1) = false) :
    PE X (.Call (.Name x p) (e :: es) [] pos) (tCall sp dvs E t) := by
  refine ⟨fun pins s σ H Q I h => ?_⟩
  refine wpAny_Call_Name_kw (ld_glob I hg hm ?_ hdb)
  refine PySem.W.callWith_K (h₀ := X.base) I.ok.mod.kin hk (thn (ha.run pos pins s σ H _ I h) fun us s1 ⟨vs, H1, I1, r, q⟩ => ⟨I1.kIn, ?_⟩) he hpl
  exact run_fnG F hr hgd hb hd hx I1 r q
end

/-! ### a call whose exceptions the slots see -/
section
variable {X : Cx} {k : Nat} {f : Addr} {fd : FuncData} {ps : List Str} {sp : Sp} {E : St → XK} {x : Str} {p pos : Pos} {e : Expr} {es : List Expr} {t : TA} {CX : CXT}
theorem run_fnGS {pins : List (Addr × Obj)} {σ : St} {H : Hp} {s : Shared} {Q : VK} {us : List Value} {vs : List V} (F : FnG X.prog X.w X.K X.mg X.base CX k f fd ps sp) (hr : Room k X.A) (hgd : X.A.guards = some []) (hb : Binds X.K fd ps []) (hx : PassesAt CX X σ (E σ))
    (I : Inv X pins σ H s) (r : Vals vs us) (h : sp vs H Q (E σ)) : wpAny (model X.prog X.w) X.A (call (.ref f) us) (EP X pins σ Q) X.xe s := by
  have hl : us.length = ps.length := by rw [← r.length]; exact F.len _ _ _ _ h
  have b := hb s us I.kIn (by rw [List.append_nil]; exact hl)
  rw [List.append_nil] at b
  refine wpAny_call (codeAny_mono (F.run X.A X.stack s H ⟨us, []⟩ us vs Q (E σ) hr hgd I.env0 b r h) fun r s' hq => ?_)
  cases r with
  | error e => exact hx pins H s e s' I hq
  | ok fl =>
    cases fl with
    | ret u => exact I.after hq
    | next => exact False.elim hq
    | brk => exact False.elim hq
    | cont => exact False.elim hq
theorem pe_callGS (F : FnG X.prog X.w X.K X.mg X.base CX k f fd ps sp) (hr : Room k X.A) (hgd : X.A.guards = some []) (hg : Gl X x) (hm : X.mg x = some (.ref f)) (hk : PySem.W.keepIn X.K (.ref f) = true) (hb : Binds X.K fd ps []) (hx : ∀ σ, PassesAt CX X σ (E σ))
    (ha : PA X (e :: es) t) (hdb : (x == ("__debug__" : Str)) = false) (he : starEach (e :: es) X.env = (false, eval e X.env) :: starEach es X.env) (hpl : (backTo pos (starEach es X.env)).any (·.1) = false) :
    PE X (.Call (.Name x p) (e :: es) [] pos) (tCallS sp E t) := by
  refine ⟨fun pins s σ H Q I h => ?_⟩
  refine wpAny_Call_Name_kw (ld_glob I hg hm ?_ hdb)
  refine PySem.W.callWith_K (h₀ := X.base) I.ok.mod.kin hk (thn (ha.run pos pins s σ H _ I h) fun us s1 ⟨vs, H1, I1, r, q⟩ => ⟨I1.kIn, ?_⟩) he hpl
  exact run_fnGS F hr hgd hb (hx σ) I1 r q
end

/-! ### a def by what it does on data -/
abbrev Fv (J : Type) := List D → J → (D → J → Prop) → (Ex → J → Prop) → Prop
class MoF (f : Fv J) : Prop where
  mo : ∀ {ds : List D} {j : J} {P P' : D → J → Prop} {E E' : Ex → J → Prop}, f ds j P E → (∀ d j', P d j' → P' d j') → (∀ e j', E e j' → E' e j') → f ds j P' E'
structure FPost (S : Js J) (F : Hp) (A : Addr → Prop) (H : Hp) (F' : Hp) (A' : Addr → Prop) (H' : Hp) (j' : J) : Prop where
  sub : Same F F'
  fh : Same F' H'
  fa : ∀ b o, F' b = some o → ¬ A' b
  jr : S.rep j' F' A' H'
  keep : ∀ b o, H b = some o → ¬ A b → H' b = some o
  ff : ∀ b o, F' b = some o → F b = some o ∨ H b = none
  af : ∀ b, A' b → A b ∨ H b = none
  dm : ∀ b, H' b = none → H b = none
  sm : ∃ o u, H' sysModules = some (.frz o u)
def spF (S : Js J) (n : Nat) (φ : Fv J) : Sp := fun vs H Q E => ∃ F A j ds P Ep, Same F H ∧ (∀ b o, F b = some o → ¬ A b) ∧ S.rep j F A H ∧ (∃ o u, H sysModules = some (.frz o u)) ∧ RpL S F ds vs ∧ ds.length = n ∧ φ ds j P Ep ∧
  (∀ d j' F' A' H' v, P d j' → FPost S F A H F' A' H' j' → Rp S F' d v → Q v H') ∧ (∀ e j' F' A' H' cls dx, Ep e j' → FPost S F A H F' A' H' j' → ExR S F' e cls dx → E cls dx H')
def un2 (F G : Hp) : Hp := fun b => match F b with | some o => some o | none => G b
theorem un2_l {F G : Hp} : Same F (un2 F G) := fun b o e => by unfold un2; rw [e]
theorem un2_cases {F G : Hp} {b : Addr} {o : HO} (h : un2 F G b = some o) : F b = some o ∨ (F b = none ∧ G b = some o) := by
  unfold un2 at h
  split at h
  · cases h; exact .inl (by assumption)
  · exact .inr ⟨by assumption, h⟩
section
variable {S : Js J} {B : Bs} {g : Gh} {H H' F' : Hp} {A' : Addr → Prop} {j j' : J}
theorem post_base (ok : OkB S B g H j) {F : Hp} (p : FPost S F g.A H F' A' H' j') : (∀ b o, g.G b = some o → H' b = some o ∧ ¬ A' b) ∧ (∀ b, A' b → B.A0 b ∨ B.H0 b = none) ∧ (∀ b o, B.H0 b = some o → ¬ B.A0 b → H' b = some o) ∧ (∀ b, H' b = none → B.H0 b = none) := by
  refine ⟨fun b o e => ⟨p.keep b o (ok.gh b o e) (ok.ga b o e), fun z => ?_⟩, fun b z => ?_, fun b o e n => ?_, fun b e => ok.h1 b (p.dm b e)⟩
  · rcases p.af b z with z | z
    · exact ok.ga b o e z
    · rw [ok.gh b o e] at z; cases z
  · rcases p.af b z with z | z
    · exact ok.a0 b z
    · exact .inr (ok.h1 b z)
  · refine p.keep b o (ok.h0 b o e n) fun z => ?_
    rcases ok.a0 b z with z | z
    · exact n z
    · rw [e] at z; cases z
/-- behind a call with frozen arguments -/
theorem post_clean (ok : OkB S B g H j) (p : FPost S g.F g.A H F' A' H' j') : Le g ⟨F', un2 F' g.G, A'⟩ ∧ OkB S B ⟨F', un2 F' g.G, A'⟩ H' j' := by
  obtain ⟨b1, b2, b3, b4⟩ := post_base ok p
  have gg : Same g.G (un2 F' g.G) := fun b o e => by
    unfold un2
    split
    · rename_i o' h
      rcases p.ff b o' h with z | z
      · rw [ok.fg b o' z] at e; exact e
      · rw [ok.gh b o e] at z; cases z
    · exact e
  refine ⟨⟨p.sub, gg, fun b o e => ?_⟩, ⟨un2_l, fun b o e => ?_, fun b o e => ?_, p.jr, ok.f0.trans p.sub, fun b o e => ?_, b2, b3, b4, p.sm⟩⟩
  · rcases p.ff b o e with z | z
    · exact .inl z
    · exact .inr (ok.gh.free z)
  · rcases un2_cases e with e | ⟨_, e⟩
    · exact p.fh b o e
    · exact (b1 b o e).1
  · rcases un2_cases e with e | ⟨_, e⟩
    · exact p.fa b o e
    · exact (b1 b o e).2
  · rcases un2_cases e with e | ⟨_, e⟩
    · rcases p.ff b o e with z | z
      · exact ok.g0 b o (ok.fg b o z)
      · exact .inr (ok.h1 b z)
    · exact ok.g0 b o e
/-- behind a call with seen arguments -/
theorem post_mix [pj : PureJ S] (ok : OkB S B g H j) (p : FPost S g.G g.A H F' A' H' j') : Le g ⟨g.F, F', A'⟩ ∧ OkB S B ⟨g.F, F', A'⟩ H' j' := by
  obtain ⟨b1, b2, b3, b4⟩ := post_base ok p
  refine ⟨⟨Same.refl _, p.sub, fun b o e => .inl e⟩, ⟨ok.fg.trans p.sub, p.fh, p.fa, pj.pu p.jr, ok.f0, fun b o e => ?_, b2, b3, b4, p.sm⟩⟩
  rcases p.ff b o e with z | z
  · exact ok.g0 b o z
  · exact .inr (ok.h1 b z)
end
/-- a call with frozen arguments: what is raised goes on -/
def eCall (φ : Fv J) (fa : Av J) (m : Sd) (j : J) (P : D → J → Prop) (E : XP J) : Prop := fa m j (fun xs j1 => φ xs j1 P (fun e j' => E e m j')) E
/-- with arguments that are seen: nothing is raised -/
def eCallM (φ : Fv J) (fa : Av J) (m : Sd) (j : J) (P : D → J → Prop) (E : XP J) : Prop := fa m j (fun xs j1 => φ xs j1 P (fun _ _ => False)) E
instance {φ : Fv J} {fa : Av J} [hf : MoF φ] [ha : MoA fa] : MoE (eCall φ fa) := ⟨fun h q x => ha.mo h (fun _ _ p => hf.mo p q fun _ _ => x _ _ _) x⟩
instance {φ : Fv J} {fa : Av J} [hf : MoF φ] [ha : MoA fa] : MoE (eCallM φ fa) := ⟨fun h q x => ha.mo h (fun _ _ p => hf.mo p q fun _ _ z => z) x⟩
section
variable {S : Js J} {B : Bs} {M : Nat → Bool} {W : WX} {X : Cx} {e a b c : Expr} {es : List Expr} {pos p : Pos} {f fa fb fc : Ev J} {fr : Av J} {x : Str} {φ : Fv J} {k n : Nat} {fn : Addr} {fd : FuncData} {ps : List Str}
theorem tCall_rd (hφ : ∀ ds j P E, φ ds j P E → ds.length = n) {R : St} {H : Hp} {Q : VK} (h : rdE S B M W .clean (eCall φ fr) R H Q) : tCallS (spF S n φ) (WE W) (rdA S B M W true fr) R H Q := by
  obtain ⟨g, m, j, P, E, ok, hf, q, xo⟩ := h
  refine ⟨g, m, j, _, E, ok, hf, fun xs j1 g1 vs H1 p1 l1 ok1 w1 => ?_, xo⟩
  refine ⟨g1.F, g1.A, j1, xs, P, _, ok1.b.fg.trans ok1.b.gh, fun b o e => ok1.b.ga b o (ok1.b.fg b o e), ok1.b.jr, ok1.b.sm, w1, hφ _ _ _ _ p1, p1, fun d j' F' A' H' v pd pp rv => ?_, fun e j' F' A' H' cls dx pe pp rv => ?_⟩
  · obtain ⟨l2, ok2⟩ := post_clean ok1.b pp
    exact q d j' _ v H' pd (l1.trans l2) ⟨ok2, ok1.s.le l2⟩ rv
  · obtain ⟨l2, ok2⟩ := post_clean ok1.b pp
    exact xo e m j' _ R H' cls dx pe (l1.trans l2).f ⟨ok2, ok1.s.le l2⟩ rv
theorem tCallM_rd [PureJ S] (hφ : ∀ ds j P E, φ ds j P E → ds.length = n) {R : St} {H : Hp} {Q : VK} (h : rdE S B M W .mix (eCallM φ fr) R H Q) : tCallS (spF S n φ) (WE W) (rdA S B M W false fr) R H Q := by
  obtain ⟨g, m, j, P, E, ok, hf, q, xo⟩ := h
  refine ⟨g, m, j, _, E, ok, hf, fun xs j1 g1 vs H1 p1 l1 ok1 w1 => ?_, xo⟩
  refine ⟨g1.G, g1.A, j1, xs, P, _, ok1.b.gh, ok1.b.ga, S.frame ok1.b.jr ok1.b.fg fun _ _ => rfl, ok1.b.sm, w1, hφ _ _ _ _ p1, p1, fun d j' F' A' H' v pd pp rv => ?_, fun e j' F' A' H' cls dx pe pp rv => pe.elim⟩
  obtain ⟨l2, ok2⟩ := post_mix ok1.b pp
  exact q d j' _ v H' pd (l1.trans l2) ⟨ok2, ok1.s.le l2⟩ rv
theorem e_call (F : FnG X.prog X.w X.K X.mg X.base (L2.CX X.prog X.w) k fn fd ps (spF S n φ)) (tk : Takes X W) (hr : Room k X.A) (hgd : X.A.guards = some []) (hg : Gl X x) (hm : X.mg x = some (.ref fn)) (hk : PySem.W.keepIn X.K (.ref fn) = true) (hb : Binds X.K fd ps [])
    (hφ : ∀ ds j P E, φ ds j P E → ds.length = n) (ha : PA X (e :: es) (rdA S B M W true fr)) (hdb : (x == ("__debug__" : Str)) = false) (he : starEach (e :: es) X.env = (false, eval e X.env) :: starEach es X.env) (hpl : (backTo pos (starEach es X.env)).any (·.1) = false) :
    PE X (.Call (.Name x p) (e :: es) [] pos) (rdE S B M W .clean (eCall φ fr)) := PE.imp (pe_callGS F hr hgd hg hm hk hb (passAt tk) ha hdb he hpl) fun _ _ _ h => tCall_rd hφ h
theorem e_callM [PureJ S] (F : FnG X.prog X.w X.K X.mg X.base (L2.CX X.prog X.w) k fn fd ps (spF S n φ)) (tk : Takes X W) (hr : Room k X.A) (hgd : X.A.guards = some []) (hg : Gl X x) (hm : X.mg x = some (.ref fn)) (hk : PySem.W.keepIn X.K (.ref fn) = true) (hb : Binds X.K fd ps [])
    (hφ : ∀ ds j P E, φ ds j P E → ds.length = n) (ha : PA X (e :: es) (rdA S B M W false fr)) (hdb : (x == ("__debug__" : Str)) = false) (he : starEach (e :: es) X.env = (false, eval e X.env) :: starEach es X.env) (hpl : (backTo pos (starEach es X.env)).any (·.1) = false) :
    PE X (.Call (.Name x p) (e :: es) [] pos) (rdE S B M W .mix (eCallM φ fr)) := PE.imp (pe_callGS F hr hgd hg hm hk hb (passAt tk) ha hdb he hpl) fun _ _ _ h => tCallM_rd hφ h
end

/-! ### statements -/
inductive Fl | next | brk | cnt | ret (d : D)
abbrev Sv (J : Type) := Sd → J → (Fl → Sd → J → Prop) → XP J → Prop
class MoS (f : Sv J) : Prop where
  mo : ∀ {m : Sd} {j : J} {P P' : Fl → Sd → J → Prop} {E E' : XP J}, f m j P E → (∀ l m' j', P l m' j' → P' l m' j') → (∀ e m' j', E e m' j' → E' e m' j') → f m j P' E'
section
variable (S : Js J) (B : Bs) (M : Nat → Bool)
def EndS (g : Gh) (E : Ends) : Fl → Sd → J → Prop
  | .next, m', j' => ∀ g' r' H', Same g.F g'.F → Ok S B g' M r' H' m' j' → E.nx r' H'
  | .brk, m', j' => ∀ g' r' H', Same g.F g'.F → Ok S B g' M r' H' m' j' → E.bk r' H'
  | .cnt, m', j' => ∀ g' r' H', Same g.F g'.F → Ok S B g' M r' H' m' j' → E.ct r' H'
  | .ret d, _, j' => ∀ g' H' v, OkB S B g' H' j' → Rp S g'.G d v → E.rt v H'
def rdS (W : WX) (f : Sv J) : TS := fun En r H => ∃ g m j P E, Ok S B g M r H m j ∧ f m j P E ∧ (∀ fl m' j', P fl m' j' → EndS S B M g En fl m' j') ∧ XOut S B M W g E
end
/-! combinators -/
def sNil (m : Sd) (j : J) (P : Fl → Sd → J → Prop) (E : XP J) : Prop := P .next m j
/-- what follows a statement -/
def thenS (f2 : Sv J) (P : Fl → Sd → J → Prop) (E : XP J) : Fl → Sd → J → Prop
  | .next, m, j => f2 m j P E
  | .brk, m, j => P .brk m j
  | .cnt, m, j => P .cnt m j
  | .ret d, m, j => P (.ret d) m j
def sSeq (f1 f2 : Sv J) (m : Sd) (j : J) (P : Fl → Sd → J → Prop) (E : XP J) : Prop := f1 m j (thenS f2 P E) E
def sExpr (fe : Ev J) (m : Sd) (j : J) (P : Fl → Sd → J → Prop) (E : XP J) : Prop := fe m j (fun _ j1 => P .next m j1) E
def sBrk (m : Sd) (j : J) (P : Fl → Sd → J → Prop) (E : XP J) : Prop := P .brk m j
def sCnt (m : Sd) (j : J) (P : Fl → Sd → J → Prop) (E : XP J) : Prop := P .cnt m j
def sNever (m : Sd) (j : J) (P : Fl → Sd → J → Prop) (E : XP J) : Prop := False
def sRet (fe : Ev J) (m : Sd) (j : J) (P : Fl → Sd → J → Prop) (E : XP J) : Prop := fe m j (fun d j1 => P (.ret d) m j1) E
def sRetN (m : Sd) (j : J) (P : Fl → Sd → J → Prop) (E : XP J) : Prop := P (.ret .non) m j
def sIf (tc : Tv J) (f1 f2 : Sv J) (m : Sd) (j : J) (P : Fl → Sd → J → Prop) (E : XP J) : Prop := tc m j (fun b j1 => if b = true then f1 m j1 P E else f2 m j1 P E) E
def sSet (i : Nat) (fe : Ev J) (m : Sd) (j : J) (P : Fl → Sd → J → Prop) (E : XP J) : Prop := fe m j (fun d j1 => P .next (m.set i (some d)) j1) E
def sAsg (γ : Gv) (fe : Ev J) (m : Sd) (j : J) (P : Fl → Sd → J → Prop) (E : XP J) : Prop := fe m j (fun d j1 => ∃ m1, γ d m = some m1 ∧ P .next m1 j1) E
/-- x += e, x -= e (ints) -/
def sAug (φ : D → D → Option D) (i : Nat) (fe : Ev J) (m : Sd) (j : J) (P : Fl → Sd → J → Prop) (E : XP J) : Prop := ∃ x, m[i]? = some (some x) ∧ fe m j (fun y j1 => ∃ z, φ x y = some z ∧ P .next (m.set i (some z)) j1) E
def addI : D → D → Option D
  | .int i, .int k => some (.int (i + k))
  | _, _ => none
def subI : D → D → Option D
  | .int i, .int k => some (.int (i - k))
  | _, _ => none
/-- what follows a turn of a loop -/
def turnS (N : Sd → J → Prop) (P : Fl → Sd → J → Prop) : Fl → Sd → J → Prop
  | .next, m, j => N m j
  | .cnt, m, j => N m j
  | .brk, m, j => P .next m j
  | .ret d, m, j => P (.ret d) m j
def whW (tc : Tv J) (fb : Sv J) : Nat → Sd → J → (Fl → Sd → J → Prop) → XP J → Prop
  | 0, _, _, _, _ => False
  | n + 1, m, j, P, E => tc m j (fun b j1 => if b = true then fb m j1 (turnS (fun m1 j2 => whW tc fb n m1 j2 P E) P) E else P .next m j1) E
def sWhile (tc : Tv J) (fb : Sv J) (m : Sd) (j : J) (P : Fl → Sd → J → Prop) (E : XP J) : Prop := ∃ n, whW tc fb n m j P E
def forW (γ : Gv) (fb : Sv J) : List D → Sd → J → (Fl → Sd → J → Prop) → XP J → Prop
  | [], m, j, P, E => P .next m j
  | d :: ds, m, j, P, E => ∃ m1, γ d m = some m1 ∧ fb m1 j (turnS (fun m2 j2 => forW γ fb ds m2 j2 P E) P) E
def sFor (fi : Iv J) (γ : Gv) (fb : Sv J) (m : Sd) (j : J) (P : Fl → Sd → J → Prop) (E : XP J) : Prop := fi m j (fun ds j1 => forW γ fb ds m j1 P E) E
section
variable {f f1 f2 : Sv J} {fe : Ev J} {tc : Tv J} {γ : Gv} {φ : D → D → Option D} {i : Nat} {fi : Iv J}
theorem thenS_mo {P P' : Fl → Sd → J → Prop} {E E' : XP J} [h2 : MoS f2] (q : ∀ l m' j', P l m' j' → P' l m' j') (x : ∀ e m' j', E e m' j' → E' e m' j') : ∀ l m j, thenS f2 P E l m j → thenS f2 P' E' l m j
  | .next, _, _, h => h2.mo h q x
  | .brk, _, _, h => q _ _ _ h
  | .cnt, _, _, h => q _ _ _ h
  | .ret _, _, _, h => q _ _ _ h
theorem turnS_mo {N N' : Sd → J → Prop} {P P' : Fl → Sd → J → Prop} (n : ∀ m j, N m j → N' m j) (q : ∀ l m' j', P l m' j' → P' l m' j') : ∀ l m j, turnS N P l m j → turnS N' P' l m j
  | .next, _, _, h => n _ _ h
  | .brk, _, _, h => q _ _ _ h
  | .cnt, _, _, h => n _ _ h
  | .ret _, _, _, h => q _ _ _ h
instance : MoS (sNil (J := J)) := ⟨fun h q x => q _ _ _ h⟩
instance [h1 : MoS f1] [h2 : MoS f2] : MoS (sSeq f1 f2) := ⟨fun h q x => h1.mo h (thenS_mo q x) x⟩
instance [h1 : MoE fe] : MoS (sExpr fe) := ⟨fun h q x => h1.mo h (fun _ _ p => q _ _ _ p) x⟩
instance : MoS (sBrk (J := J)) := ⟨fun h q x => q _ _ _ h⟩
instance : MoS (sCnt (J := J)) := ⟨fun h q x => q _ _ _ h⟩
instance : MoS (sNever (J := J)) := ⟨fun h q x => h⟩
instance [h1 : MoE fe] : MoS (sRet fe) := ⟨fun h q x => h1.mo h (fun _ _ p => q _ _ _ p) x⟩
instance : MoS (sRetN (J := J)) := ⟨fun h q x => q _ _ _ h⟩
instance [hc : MoT tc] [h1 : MoS f1] [h2 : MoS f2] : MoS (sIf tc f1 f2) := ⟨fun h q x => hc.mo h (fun _ _ p => ite_mono p (fun p => h1.mo p q x) fun p => h2.mo p q x) x⟩
instance [h1 : MoE fe] : MoS (sSet i fe) := ⟨fun h q x => h1.mo h (fun _ _ p => q _ _ _ p) x⟩
instance [h1 : MoE fe] : MoS (sAsg γ fe) := ⟨fun h q x => h1.mo h (fun _ _ ⟨m, e, p⟩ => ⟨m, e, q _ _ _ p⟩) x⟩
instance [h1 : MoE fe] : MoS (sAug φ i fe) := ⟨fun ⟨y, e, h⟩ q x => ⟨y, e, h1.mo h (fun _ _ ⟨m, e, p⟩ => ⟨m, e, q _ _ _ p⟩) x⟩⟩
theorem whW_mo {fb : Sv J} [hc : MoT tc] [hb : MoS fb] : ∀ {n k : Nat} {m : Sd} {j : J} {P P' : Fl → Sd → J → Prop} {E E' : XP J}, whW tc fb n m j P E → n ≤ k → (∀ l m' j', P l m' j' → P' l m' j') → (∀ e m' j', E e m' j' → E' e m' j') → whW tc fb k m j P' E'
  | 0, _, _, _, _, _, _, _, h, _, _, _ => h.elim
  | n + 1, 0, _, _, _, _, _, _, _, l, _, _ => absurd l (Nat.not_succ_le_zero _)
  | n + 1, k + 1, _, _, _, _, _, _, h, l, q, x => hc.mo h (fun _ _ p => ite_mono p (fun p => hb.mo p (turnS_mo (fun _ _ p => whW_mo p (Nat.le_of_succ_le_succ l) q x) q) x) (q _ _ _)) x
instance {fb : Sv J} [hc : MoT tc] [hb : MoS fb] : MoS (sWhile tc fb) := ⟨fun ⟨n, h⟩ q x => ⟨n, whW_mo h (Nat.le_refl _) q x⟩⟩
theorem forW_mo {fb : Sv J} [hb : MoS fb] : ∀ {ds : List D} {m : Sd} {j : J} {P P' : Fl → Sd → J → Prop} {E E' : XP J}, forW γ fb ds m j P E → (∀ l m' j', P l m' j' → P' l m' j') → (∀ e m' j', E e m' j' → E' e m' j') → forW γ fb ds m j P' E'
  | [], _, _, _, _, _, _, h, q, _ => q _ _ _ h
  | _ :: _, _, _, _, _, _, _, ⟨m1, e, h⟩, q, x => ⟨m1, e, hb.mo h (turnS_mo (fun _ _ p => forW_mo p q x) q) x⟩
instance {fb : Sv J} [hi : MoA fi] [hb : MoS fb] : MoS (sFor fi γ fb) := ⟨fun h q x => hi.mo h (fun _ _ p => forW_mo p q x) x⟩
end
section
variable {S : Js J} {B : Bs} {M : Nat → Bool} {W : WX} {X : Cx} {e a b c tg : Expr} {st : Stmt} {rest body body' : List Stmt} {pos p : Pos} {f fa fb fc fe : Ev J} {fs fs' : Sv J} {tc : Tv J}
theorem EndS.mono {g g' : Gh} {E : Ends} : ∀ {fl : Fl} {m : Sd} {j : J}, EndS S B M g E fl m j → Same g.F g'.F → EndS S B M g' E fl m j
  | .next, _, _, h, l => fun g2 r H l2 ok => h g2 r H (l.trans l2) ok
  | .brk, _, _, h, l => fun g2 r H l2 ok => h g2 r H (l.trans l2) ok
  | .cnt, _, _, h, l => fun g2 r H l2 ok => h g2 r H (l.trans l2) ok
  | .ret d, _, _, h, l => h
theorem s_nil : PSs X [] (rdS S B M W sNil) := PSs.imp pss_nil fun E r H ⟨g, m, j, P, Ep, ok, hf, q, xo⟩ => q _ _ _ hf g r H (Same.refl _) ok
theorem s_cons (h1 : PS X st (rdS S B M W fs)) (h2 : PSs X rest (rdS S B M W fs')) : PSs X (st :: rest) (rdS S B M W (sSeq fs fs')) :=
  PSs.imp (pss_cons h1 h2) fun E r H ⟨g, m, j, P, Ep, ok, hf, q, xo⟩ => by
    refine ⟨g, m, j, _, Ep, ok, hf, fun fl m' j' p => ?_, xo⟩
    cases fl with
    | next => exact fun g' r' H' l ok' => ⟨g', m', j', P, Ep, ok', p, fun fl2 m2 j2 p2 => (q _ _ _ p2).mono l, xo.le l⟩
    | brk => exact q _ _ _ p
    | cnt => exact q _ _ _ p
    | ret d => exact q _ _ _ p
theorem s_ret {k : Cl} (he : PE X e (rdE S B M W k fe)) : PS X (.Return (some e) pos) (rdS S B M W (sRet fe)) :=
  PS.imp (ps_ret he) fun E r H ⟨g, m, j, P, Ep, ok, hf, q, xo⟩ => ⟨g, m, j, _, Ep, ok, hf, fun d j1 g' v H' p l ok' w => q _ _ _ p g' H' v ok'.b (w.mix ok'.b.fg), xo⟩
theorem s_if (hc : PT X c (rdT S B M W tc)) (ha : PSs X body (rdS S B M W fs)) (hb : PSs X body' (rdS S B M W fs')) : PS X (.If c body body' pos) (rdS S B M W (sIf tc fs fs')) :=
  PS.imp (ps_if hc ha hb) fun E r H ⟨g, m, j, P, Ep, ok, hf, q, xo⟩ => ⟨g, m, j, _, Ep, ok, hf, fun b j1 g1 H1 p l1 ok1 => ite_mono p (fun p => ⟨g1, m, _, P, Ep, ok1, p, fun fl m' j' p => (q _ _ _ p).mono l1.f, xo.le l1.f⟩) fun p => ⟨g1, m, _, P, Ep, ok1, p, fun fl m' j' p => (q _ _ _ p).mono l1.f, xo.le l1.f⟩, xo⟩
/-! assignments -/
theorem sSet_rd {i : Nat} {t : TE} (hM : M i = false) (ht : ∀ r H Q, rdE S B M W .clean fe r H Q → t r H Q) {E : Ends} {r : St} {H : Hp} (h : rdS S B M W (sSet i fe) E r H) : tAsg t (gName i) E r H := by
  obtain ⟨g, m, j, P, Ep, ok, hf, q, xo⟩ := h
  exact ht _ _ _ ⟨g, m, j, _, Ep, ok, hf, fun d j1 g' v H' p l ok' w => q _ _ _ p g' _ H' l.f ⟨ok'.b, ok'.s.set_fr hM w⟩, xo⟩
theorem sSetO_rd {i : Nat} {t : TE} (hM : M i = true) (ht : ∀ r H Q, rdE S B M W .fresh fe r H Q → t r H Q) {E : Ends} {r : St} {H : Hp} (h : rdS S B M W (sSet i fe) E r H) : tAsg t (gName i) E r H := by
  obtain ⟨g, m, j, P, Ep, ok, hf, q, xo⟩ := h
  refine ht _ _ _ ⟨g, m, j, _, Ep, ok, hf, fun d j1 g' v H' p l ok' w => ?_, xo⟩
  obtain ⟨a, rfl, n, o⟩ := w
  refine q _ _ _ p g' _ H' l.f ⟨ok'.b, ok'.s.set_ow hM o fun k e hk hMk he z => ?_⟩
  exact (ok.s.apart_fresh (i := i) n) k e hk hMk he z
theorem s_set {i : Nat} {x : Str} {pos' : Pos} (hM : M i = false) (hN : X.N.Nodup) (hi : X.N[i]? = some x) (hx : Loc X.env.scope x) (he : PE X e (rdE S B M W .clean fe)) (hs : swapsWith e (some (.Name x pos')) pos.line X.env = pure false) (hf : X.fn x = true ∨ X.env.scope.names.lookup x = some .local) :
    PS X (.Assign [.Name x pos'] e pos) (rdS S B M W (sSet i fe)) := PS.imp (ps_set hN hi hx he hs hf) fun E r H h => sSet_rd hM (fun _ _ _ z => z) h
theorem s_setO {i : Nat} {x : Str} {pos' : Pos} (hM : M i = true) (hN : X.N.Nodup) (hi : X.N[i]? = some x) (hx : Loc X.env.scope x) (he : PE X e (rdE S B M W .fresh fe)) (hs : swapsWith e (some (.Name x pos')) pos.line X.env = pure false) (hf : X.fn x = true ∨ X.env.scope.names.lookup x = some .local) :
    PS X (.Assign [.Name x pos'] e pos) (rdS S B M W (sSet i fe)) := PS.imp (ps_set hN hi hx he hs hf) fun E r H h => sSetO_rd hM (fun _ _ _ z => z) h
theorem s_asg {γ : Gv} {ks : List Nat} (he : PE X e (rdE S B M W .clean fe)) (hg : PG X tg (rdG S B M false ks γ)) (hs : swapsWithSole [tg] e pos.line X.env = pure false) (hw : swappedStores [tg] e X.env = pure none)
    (h1 : (assignEach [tg] X.env).map (·.2) = [assign tg X.env]) : PS X (.Assign [tg] e pos) (rdS S B M W (sAsg γ fe)) :=
  PS.imp (ps_asg he hg hs hw h1) fun E r H ⟨g, m, j, P, Ep, ok, hf, q, xo⟩ =>
    ⟨g, m, j, _, Ep, ok, hf, fun d j1 g' v H' ⟨m1, h2, p⟩ l ok' w => ⟨g', m, _, _, _, ok', .inl w, h2, fun r' ok'' _ _ => q _ _ _ p g' r' H' l.f ok''⟩, xo⟩
end

/-! ### while, for -/
section
variable {S : Js J} {B : Bs} {M : Nat → Bool} {W : WX} {X : Cx} {c tg iter : Expr} {body : List Stmt} {pos : Pos} {tc : Tv J} {fb : Sv J} {fi : Iv J} {γ : Gv} {ks : List Nat} {w : Bool}
theorem s_while (hp : PassesOwn (model X.prog X.w) X.A X.env X.xe) (hc : PT X c (rdT S B M W tc)) (hb : PSs X body (rdS S B M W fb)) : PS X (.While c body [] pos) (rdS S B M W (sWhile tc fb)) :=
  PS.imp (ps_while hp hc hb) fun E r H ⟨g, m, j, P, Ep, ok, ⟨n, hn⟩, q, xo⟩ => by
    refine ⟨fun k r H => ∃ g1 m1 j1, Same g.F g1.F ∧ Ok S B g1 M r H m1 j1 ∧ whW tc fb k m1 j1 P Ep, ⟨n, g, m, j, Same.refl _, ok, hn⟩, ?_⟩
    rintro k r1 H1 ⟨g1, m1, j1, l1, ok1, hk⟩
    cases k with
    | zero => exact hk.elim
    | succ k =>
      refine ⟨g1, m1, j1, _, Ep, ok1, hk, fun b j2 g2 H2 p l2 ok2 => ite_mono p (fun p => ?_) (fun p => q _ _ _ p g2 _ H2 (l1.trans l2.f) ok2), xo.le l1⟩
      refine ⟨fun r3 H3 => ∃ g3 m3 j3, Same g.F g3.F ∧ Ok S B g3 M r3 H3 m3 j3 ∧ whW tc fb k m3 j3 P Ep, fun r3 H3 h3 => ⟨k, Nat.lt_succ_self _, h3⟩, ?_⟩
      refine ⟨g2, m1, _, _, Ep, ok2, p, fun fl m3 j3 p => ?_, xo.le (l1.trans l2.f)⟩
      cases fl with
      | next => exact fun g4 r4 H4 l4 ok4 => ⟨g4, m3, j3, (l1.trans l2.f).trans l4, ok4, p⟩
      | cnt => exact fun g4 r4 H4 l4 ok4 => ⟨g4, m3, j3, (l1.trans l2.f).trans l4, ok4, p⟩
      | brk => exact fun g4 r4 H4 l4 ok4 => q _ _ _ p g4 r4 H4 ((l1.trans l2.f).trans l4) ok4
      | ret d => exact q _ _ _ p
theorem s_for (hp : PassesOwn (model X.prog X.w) X.A X.env X.xe) (hc : X.calm = true) (hi : PI X tg iter (rdI S B M W true w fi)) (hg : PG X tg (rdG S B M w ks γ)) (hb : PSs X body (rdS S B M W fb)) (hs : ∀ x, foldedSetIterable iter X.env x = pure x) :
    PS X (.For tg iter body [] pos) (rdS S B M W (sFor fi γ fb)) :=
  PS.imp (ps_for hp hc hi hg hb hs) fun E r H ⟨g, m, j, P, Ep, ok, hf, q, xo⟩ => by
    refine ⟨g, m, j, _, Ep, ok, hf, fun ds j1 g1 H1 Jt hf l1 ok1 wk => ?_, xo⟩
    refine for_it wk (fun i r H => ∃ g2 m2 j2, Same g1.F g2.F ∧ Ok S B g2 M r H m2 j2 ∧ forW γ fb (ds.drop i) m2 j2 P Ep) ⟨g1, m, j1, Same.refl _, ok1, by rw [List.drop_zero]; exact hf⟩ ?_ ?_ ?_
    · rintro i r2 H2 hi ⟨g2, m2, j2, l2, ok2, h2⟩
      exact l2.trans (ok2.b.fg.trans ok2.b.gh)
    · rintro i y r2 H2 H2' hi ⟨g2, m2, j2, l2, ok2, h2⟩ ⟨dd, hdd, yy⟩
      have hdrop : ds.drop i = dd :: ds.drop (i + 1) := by
        obtain ⟨hlt, he⟩ := List.getElem?_eq_some_iff.mp hdd
        rw [List.drop_eq_getElem_cons hlt, he]
      rw [hdrop] at h2
      obtain ⟨m3, hm3, h2⟩ := h2
      have item : ∃ g3, Le g2 g3 ∧ Ok S B g3 M r2 H2' m2 j2 ∧ RpX S g3.F w dd y := by
        rcases yy with ⟨rfl, rp⟩ | ⟨hw, T, vs, es, rfl, hT, rfl, rfl, rl⟩ | ⟨T, o, vs, es, rfl, hT, hdo, rfl, rfl, rl⟩
        · exact ⟨g2, Le.refl _, ok2, .inl (rp.mono l2)⟩
        · obtain ⟨t1, t2, t3, t4⟩ := ok2.b.hn hT
          exact ⟨_, Le.frz ok2.b.fg t2, ⟨ok2.b.frz _ hT, ok2.s.le (Le.frz ok2.b.fg t2)⟩, .inr ⟨hw, T, vs, es, rfl, upd_same, rfl, (rl.mono l2).mono (same_new t1)⟩⟩
        · obtain ⟨t1, t2, t3, t4⟩ := ok2.b.hn hT
          exact ⟨_, Le.frz ok2.b.fg t2, ⟨ok2.b.frz _ hT, ok2.s.le (Le.frz ok2.b.fg t2)⟩, .inl (.tup (.inl ⟨o, upd_same, hdo⟩) ((rl.mono l2).mono (same_new t1)))⟩
      obtain ⟨g3, l3, ok3, rp3⟩ := item
      refine ⟨g3, m2, j2, dd, m3, ok3, rp3, hm3, fun r4 ok4 len4 k4 => ?_⟩
      have l23 := l2.trans l3.f
      refine ⟨g3, m3, j2, _, Ep, ok4, h2, fun fl m5 j5 p => ?_, xo.le (l1.f.trans l23)⟩
      cases fl with
      | next => exact fun g6 r6 H6 l6 ok6 => ⟨g6, m5, j5, l23.trans l6, ok6, p⟩
      | cnt => exact fun g6 r6 H6 l6 ok6 => ⟨g6, m5, j5, l23.trans l6, ok6, p⟩
      | brk => exact fun g6 r6 H6 l6 ok6 => q _ _ _ p g6 r6 H6 ((l1.f.trans l23).trans l6) ok6
      | ret d => exact q _ _ _ p
    · rintro r2 H2 ⟨g2, m2, j2, l2, ok2, h2⟩
      rw [List.drop_length] at h2
      exact q _ _ _ h2 g2 r2 H2 (l1.f.trans l2) ok2
end
end Mp

/-! Mp8: stores into owned lists; two and three names at once; t.index(x); defs. -/
namespace Mp
open PySem PySem.Spec L2
open PyProof.Rows hiding St
variable {J : Type}

/-- the owned thing at a is written -/
def Gh.put (g : Gh) (a : Addr) (o : HO) : Gh := ⟨g.F, upd g.G a o, g.A⟩
section
variable {S : Js J} {B : Bs} {M : Nat → Bool} {X : Cx} {g : Gh} {H : Hp} {j : J} {a : Addr} {r : St} {m : Sd} {i : Nat} {d d' : D}
theorem OkB.own0 (k : OkB S B g H j) {o : HO} (hF : g.F a = none) (hG : g.G a = some o) : B.H0 a = none := by
  rcases k.g0 a o hG with z | z
  · have := k.f0 a o z
    rw [hF] at this; cases this
  · exact z
theorem OkB.put (k : OkB S B g H j) {o o' : HO} (hF : g.F a = none) (hG : g.G a = some o') (ho : ∀ x y, o' ≠ .frz x y) : OkB S B (g.put a o) (upd H a o) j := by
  have h0 := k.own0 hF hG
  refine ⟨fun b u e => ?_, same_upd k.gh, fun b u e => ?_, S.frame k.jr (Same.refl _) fun b z => upd_ne fun q => k.ga a o' hG (q ▸ z), k.f0, fun b u e => ?_, k.a0, fun b u e n => ?_, fun b e => ?_, ?_⟩
  · show upd g.G a o b = some u
    rw [upd_ne (ne_of_none e hF)]; exact k.fg b u e
  · have e' : upd g.G a o b = some u := e
    by_cases hb : b = a
    · subst hb; exact k.ga b o' hG
    · rw [upd_ne hb] at e'; exact k.ga b u e'
  · have e' : upd g.G a o b = some u := e
    by_cases hb : b = a
    · subst hb; exact .inr h0
    · rw [upd_ne hb] at e'; exact k.g0 b u e'
  · rw [upd_ne (ne_of_none e h0)]; exact k.h0 b u e n
  · by_cases hb : b = a
    · subst hb; rw [upd_same] at e; cases e
    · rw [upd_ne hb] at e; exact k.h1 b e
  · obtain ⟨o1, u1, e1⟩ := k.sm
    refine ⟨o1, u1, ?_⟩
    rw [upd_ne fun z => ho o1 u1 (by have := k.gh _ _ hG; rw [← z, e1] at this; exact (Option.some.inj this).symm)]
    exact e1
theorem Own.putO {b : Addr} {o : HO} (h : Own S g d b) (hb : b ≠ a) : Own S (g.put a o) d b := by
  obtain ⟨n, ⟨ds, vs, rfl, e, t⟩ | ⟨kds, kvs, rfl, e, l, t⟩ | ⟨kds, kvs, rfl, e, l, t⟩⟩ := h
  · exact ⟨n, .inl ⟨ds, vs, rfl, by show upd g.G a o b = _; rw [upd_ne hb]; exact e, t⟩⟩
  · exact ⟨n, .inr (.inl ⟨kds, kvs, rfl, by show upd g.G a o b = _; rw [upd_ne hb]; exact e, l, t⟩)⟩
  · exact ⟨n, .inr (.inr ⟨kds, kvs, rfl, by show upd g.G a o b = _; rw [upd_ne hb]; exact e, l, t⟩)⟩
theorem Slots.put (h : Slots S g M r m) (hM : M i = true) (hm : m[i]? = some (some d)) (hr : r[i]? = some (some (.ref a))) {o : HO} (ow : Own S (g.put a o) d' a) : Slots S (g.put a o) M r (m.set i (some d')) := by
  have hi : i < m.length := (List.getElem?_eq_some_iff.mp hm).1
  have get : ∀ {k : Nat} {e : D}, (m.set i (some d'))[k]? = some (some e) → (k = i ∧ e = d') ∨ (k ≠ i ∧ m[k]? = some (some e)) := fun {k e} q => by
    by_cases hk : k = i
    · subst hk
      rw [List.getElem?_set_self hi] at q
      cases q
      exact .inl ⟨rfl, rfl⟩
    · rw [List.getElem?_set_ne (Ne.symm hk)] at q
      exact .inr ⟨hk, q⟩
  have old : ∀ {k : Nat} {e : D}, (m.set i (some d'))[k]? = some (some e) → ∃ e', m[k]? = some (some e') := fun {k e} q => by
    rcases get q with ⟨rfl, rfl⟩ | ⟨_, q⟩
    · exact ⟨_, hm⟩
    · exact ⟨_, q⟩
  refine ⟨by rw [List.length_set]; exact h.len, fun k e q hk => ?_, fun k e q hk => ?_, fun k l b e e' q1 q2 hk hl h1 h2 => ?_⟩
  · rcases get q with ⟨rfl, rfl⟩ | ⟨hn, q⟩
    · rw [hM] at hk; cases hk
    · exact h.fr k e q hk
  · rcases get q with ⟨rfl, rfl⟩ | ⟨hn, q⟩
    · exact ⟨a, hr, ow⟩
    · obtain ⟨b, h1, h2⟩ := h.ow k e q hk
      exact ⟨b, h1, h2.putO fun z => hn (h.dj k i a e d q hm hk hM (z ▸ h1) hr)⟩
  · obtain ⟨x, q1⟩ := old q1
    obtain ⟨y, q2⟩ := old q2
    exact h.dj k l b x y q1 q2 hk hl h1 h2
end

def sApp (i : Nat) (fe : Ev J) (m : Sd) (j : J) (P : Fl → Sd → J → Prop) (E : XP J) : Prop :=
  ∃ xs, m[i]? = some (some (.lst xs)) ∧ fe m j (fun d j1 => xs.length < LINE ∧ P .next (m.set i (some (.lst (xs ++ [d])))) j1) E
def sExt (i : Nat) (fe : Ev J) (m : Sd) (j : J) (P : Fl → Sd → J → Prop) (E : XP J) : Prop :=
  ∃ xs, m[i]? = some (some (.lst xs)) ∧ fe m j (fun d j1 => ∃ ys, d = .lst ys ∧ xs.length + ys.length ≤ LINE ∧ P .next (m.set i (some (.lst (xs ++ ys)))) j1) E
/-- i[k] = e -/
def sSetIx (i : Nat) (fk fe : Ev J) (m : Sd) (j : J) (P : Fl → Sd → J → Prop) (E : XP J) : Prop :=
  ∃ xs, m[i]? = some (some (.lst xs)) ∧ fe m j (fun d j1 => fk m j1 (fun kk j2 => ∃ k n, kk = .int k ∧ ixN xs.length k = some n ∧ P .next (m.set i (some (.lst (xs.set n d)))) j2) E) E
/-- i.append(k.pop(e)) -/
def sAppPop (i k : Nat) (fe : Ev J) (m : Sd) (j : J) (P : Fl → Sd → J → Prop) (E : XP J) : Prop :=
  ∃ xs ys, m[i]? = some (some (.lst xs)) ∧ m[k]? = some (some (.lst ys)) ∧ i ≠ k ∧ fe m j (fun d j1 => ∃ n y, d = .int n ∧ 0 ≤ n ∧ n < (ys.length : Int) ∧ xs.length < LINE ∧ ys.length ≤ LINE ∧ ys[n.toNat]? = some y ∧
    P .next ((m.set k (some (.lst (ys.eraseIdx n.toNat)))).set i (some (.lst (xs ++ [y])))) j1) E
/-- γ = i.pop() -/
def sPopTo (i : Nat) (γ : Gv) (m : Sd) (j : J) (P : Fl → Sd → J → Prop) (E : XP J) : Prop :=
  ∃ xs y m1, m[i]? = some (some (.lst xs)) ∧ xs.getLast? = some y ∧ γ y (m.set i (some (.lst xs.dropLast))) = some m1 ∧ P .next m1 j
section
variable {i k : Nat} {f1 f2 f3 : Ev J} {γ : Gv}
instance [h1 : MoE f1] : MoS (sApp i f1) := ⟨fun ⟨xs, e, h⟩ q x => ⟨xs, e, h1.mo h (fun _ _ ⟨l, p⟩ => ⟨l, q _ _ _ p⟩) x⟩⟩
instance [h1 : MoE f1] : MoS (sExt i f1) := ⟨fun ⟨xs, e, h⟩ q x => ⟨xs, e, h1.mo h (fun _ _ ⟨ys, e, l, p⟩ => ⟨ys, e, l, q _ _ _ p⟩) x⟩⟩
instance [h1 : MoE f1] [h2 : MoE f2] : MoS (sSetIx i f1 f2) := ⟨fun ⟨xs, e, h⟩ q x => ⟨xs, e, h2.mo h (fun _ _ p => h1.mo p (fun _ _ ⟨k, n, e, l, p⟩ => ⟨k, n, e, l, q _ _ _ p⟩) x) x⟩⟩
instance [h1 : MoE f1] : MoS (sAppPop i k f1) := ⟨fun ⟨xs, ys, e1, e2, n, h⟩ q x => ⟨xs, ys, e1, e2, n, h1.mo h (fun _ _ ⟨n, y, a1, a2, a3, a4, a5, a6, p⟩ => ⟨n, y, a1, a2, a3, a4, a5, a6, q _ _ _ p⟩) x⟩⟩
instance : MoS (sPopTo (J := J) i γ) := ⟨fun ⟨xs, y, m1, a, b, c, p⟩ q x => ⟨xs, y, m1, a, b, c, q _ _ _ p⟩⟩
end
section
variable {S : Js J} {B : Bs} {M : Nat → Bool} {W : WX} {X : Cx} {e ek a b c tg : Expr} {pos p ap np : Pos} {fe fk : Ev J} {i k : Nat} {x y : Str}
theorem own_lst {g : Gh} {xs : List D} {a : Addr} (h : Own S g (.lst xs) a) : g.F a = none ∧ ∃ vs, g.G a = some (.lst vs) ∧ RpL S g.F xs vs := by
  obtain ⟨n, ⟨ds, vs, e, e2, t⟩ | ⟨kds, kvs, e, _⟩ | ⟨kds, kvs, e, _⟩⟩ := h
  · cases e; exact ⟨n, vs, e2, t⟩
  · cases e
  · cases e
/-- the facts of a method's call on a name -/
structure MtN (X : Cx) (i : Nat) (x : Str) : Prop where
  n : X.N[i]? = some x
  v : Vis X.env.scope x
  d : (x == ("__debug__" : Str)) = false
  c : (x == ("__classdict__" : Str)) = false
theorem MtN.pe (h : MtN X i x) {q : Pos} : PE X (.Name x q) (tVar i) := pe_var h.n h.v h.d h.c
theorem s_app (hM : M i = true) (hx : MtN X i x) (he : PE X e (rdE S B M W .clean fe)) (hl : (ap.endLine == p.line) = true) (hs : starEach [e] X.env = [(false, eval e X.env)])
    (hb : attributeBase (.Name x np) "append" X.env (eval (.Name x np) X.env) = eval (.Name x np) X.env) (hf : ((backTo p (starEach [e] X.env)).all (fun x => !x.1) && (backToKw p (keywordEach [] X.env)).all (fun x => x.1.isSome)
      && decide (([e] : List Expr).length + ([] : List Keyword).length + (if ([] : List Keyword).isEmpty then 0 else 1) < 30)) = true) (hsw : swapsWith (.Call (.Attribute (.Name x np) "append" ap) [e] [] p) none pos.line X.env = pure false) :
    PS X (.Expr (.Call (.Attribute (.Name x np) "append" ap) [e] [] p) pos) (rdS S B M W (sApp i fe)) :=
  PS.imp (ps_expr (pe_bm PySem.F.plainAttrs_list PySem.F.slot_list_append PySem.F.type_list_append mt_append hx.pe (pa_cons he pa_nil hs) hb hf hl hs rfl) hsw) fun E r H ⟨g, m, j, P, Ep, ok, ⟨xs, hm, hf⟩, q, xo⟩ => by
    obtain ⟨a, hr, ho⟩ := ok.s.ow i _ hm hM
    obtain ⟨_, vs0, hG0, _⟩ := own_lst ho
    refine ⟨_, hr, .inl ⟨rfl, _, .of (ok.b.gh _ _ hG0)⟩, g, m, j, _, Ep, ok, hf, fun d j1 g1 v H1 ⟨hlen, p⟩ l1 ok1 w => ?_, xo⟩
    obtain ⟨hF, vs, hG, t⟩ := own_lst (ho.le l1)
    refine ⟨a, vs, v, rfl, rfl, ok1.b.gh _ _ hG, by rw [← t.length]; exact Nat.lt_of_lt_of_le hlen line_ok, ?_⟩
    refine q _ _ _ p (g1.put a (.lst (vs ++ [v]))) r _ l1.f ⟨ok1.b.put hF hG (by intro x y z; cases z), ok1.s.put hM hm hr ⟨hF, .inl ⟨_, _, rfl, upd_same, t.append (.cons w .nil)⟩⟩⟩
theorem s_ext (hM : M i = true) (hx : MtN X i x) (he : PE X e (rdE S B M W .clean fe)) (hl : (ap.endLine == p.line) = true) (hs : starEach [e] X.env = [(false, eval e X.env)])
    (hb : attributeBase (.Name x np) "extend" X.env (eval (.Name x np) X.env) = eval (.Name x np) X.env) (hf : ((backTo p (starEach [e] X.env)).all (fun x => !x.1) && (backToKw p (keywordEach [] X.env)).all (fun x => x.1.isSome)
      && decide (([e] : List Expr).length + ([] : List Keyword).length + (if ([] : List Keyword).isEmpty then 0 else 1) < 30)) = true) (hsw : swapsWith (.Call (.Attribute (.Name x np) "extend" ap) [e] [] p) none pos.line X.env = pure false) :
    PS X (.Expr (.Call (.Attribute (.Name x np) "extend" ap) [e] [] p) pos) (rdS S B M W (sExt i fe)) :=
  PS.imp (ps_expr (pe_bm PySem.F.plainAttrs_list PySem.F.slot_list_extend PySem.F.type_list_extend mt_extend hx.pe (pa_cons he pa_nil hs) hb hf hl hs rfl) hsw) fun E r H ⟨g, m, j, P, Ep, ok, ⟨xs, hm, hf⟩, q, xo⟩ => by
    obtain ⟨a, hr, ho⟩ := ok.s.ow i _ hm hM
    obtain ⟨_, vs0, hG0, _⟩ := own_lst ho
    refine ⟨_, hr, .inl ⟨rfl, _, .of (ok.b.gh _ _ hG0)⟩, g, m, j, _, Ep, ok, hf, fun d j1 g1 v H1 hh l1 ok1 w => ?_, xo⟩
    obtain ⟨ys, rfl, hlen, p⟩ := hh
    obtain ⟨hF, vs, hG, t⟩ := own_lst (ho.le l1)
    obtain ⟨b, ws, rfl, hb, rb⟩ := lst_of w
    refine ⟨a, b, vs, ws, rfl, rfl, ok1.b.gh _ _ hG, (ok1.b.fg.trans ok1.b.gh) _ _ hb, by rw [← t.length, ← rb.length]; exact Nat.le_trans hlen line_ok, ?_⟩
    refine q _ _ _ p (g1.put a (.lst (vs ++ ws))) r _ l1.f ⟨ok1.b.put hF hG (by intro x y z; cases z), ok1.s.put hM hm hr ⟨hF, .inl ⟨_, _, rfl, upd_same, t.append rb⟩⟩⟩
theorem seqIx {n : Int} {l : Nat} (h0 : 0 ≤ n) (h1 : n < (l : Int)) : seqIndex? n l = some n.toNat := by
  unfold seqIndex?
  have : ¬ n < 0 := by omega
  simp [this, h0, h1]
theorem s_appPop (hMi : M i = true) (hMk : M k = true) (hx : MtN X i x) (hy : MtN X k y) {ap2 np2 p2 : Pos} (he : PE X e (rdE S B M W .mix fe)) (hl : (ap.endLine == p.line) = true) (hl2 : (ap2.endLine == p2.line) = true)
    (hs : starEach [.Call (.Attribute (.Name y np2) "pop" ap2) [e] [] p2] X.env = [(false, eval (.Call (.Attribute (.Name y np2) "pop" ap2) [e] [] p2) X.env)]) (hs2 : starEach [e] X.env = [(false, eval e X.env)])
    (hb : attributeBase (.Name x np) "append" X.env (eval (.Name x np) X.env) = eval (.Name x np) X.env) (hb2 : attributeBase (.Name y np2) "pop" X.env (eval (.Name y np2) X.env) = eval (.Name y np2) X.env)
    (hf : ((backTo p (starEach [.Call (.Attribute (.Name y np2) "pop" ap2) [e] [] p2] X.env)).all (fun x => !x.1) && (backToKw p (keywordEach [] X.env)).all (fun x => x.1.isSome)
      && decide (([.Call (.Attribute (.Name y np2) "pop" ap2) [e] [] p2] : List Expr).length + ([] : List Keyword).length + (if ([] : List Keyword).isEmpty then 0 else 1) < 30)) = true)
    (hf2 : ((backTo p2 (starEach [e] X.env)).all (fun x => !x.1) && (backToKw p2 (keywordEach [] X.env)).all (fun x => x.1.isSome)
      && decide (([e] : List Expr).length + ([] : List Keyword).length + (if ([] : List Keyword).isEmpty then 0 else 1) < 30)) = true)
    (hsw : swapsWith (.Call (.Attribute (.Name x np) "append" ap) [.Call (.Attribute (.Name y np2) "pop" ap2) [e] [] p2] [] p) none pos.line X.env = pure false) :
    PS X (.Expr (.Call (.Attribute (.Name x np) "append" ap) [.Call (.Attribute (.Name y np2) "pop" ap2) [e] [] p2] [] p) pos) (rdS S B M W (sAppPop i k fe)) :=
  PS.imp (ps_expr (pe_bm PySem.F.plainAttrs_list PySem.F.slot_list_append PySem.F.type_list_append mt_append hx.pe
    (pa_cons (pe_bm PySem.F.plainAttrs_list PySem.F.slot_list_pop PySem.F.type_list_pop mt_popAt hy.pe (pa_cons he pa_nil hs2) hb2 hf2 hl2 hs2 rfl) pa_nil hs) hb hf hl hs rfl) hsw) fun E r H ⟨g, m, j, P, Ep, ok, ⟨xs, ys, hmi, hmk, c5, hf⟩, q, xo⟩ => by
    obtain ⟨a, hri, hoi⟩ := ok.s.ow i _ hmi hMi
    obtain ⟨b, hrk, hok⟩ := ok.s.ow k _ hmk hMk
    obtain ⟨_, vs0, hG0, _⟩ := own_lst hoi
    obtain ⟨_, ws0, hGk0, _⟩ := own_lst hok
    refine ⟨_, hri, .inl ⟨rfl, _, .of (ok.b.gh _ _ hG0)⟩, _, hrk, .inl ⟨rfl, _, .of (ok.b.gh _ _ hGk0)⟩, g, m, j, _, Ep, ok, hf, fun d j1 g1 v H1 hh l1 ok1 w => ?_, xo⟩
    obtain ⟨n, yy, rfl, c1, c2, c3, c4, h4, p⟩ := hh
    have hab : a ≠ b := fun z => c5 (ok.s.dj i k a _ _ hmi hmk hMi hMk hri (z ▸ hrk))
    obtain ⟨hFk, ws, hGk, tk⟩ := own_lst (hok.le l1)
    obtain ⟨wy, hwy, ry⟩ := tk.get h4
    have hlen := tk.length
    refine ⟨b, ws, n, n.toNat, wy, rfl, by rw [int_of w], ok1.b.gh _ _ hGk, by omega, by have : LINE = 1000000 := rfl; omega, by rw [← hlen]; exact seqIx c1 c2, hwy, ?_⟩
    have ok2 : OkB S B (g1.put b (.lst (ws.eraseIdx n.toNat))) (upd H1 b (.lst (ws.eraseIdx n.toNat))) j1 := ok1.b.put hFk hGk (by intro x y z; cases z)
    have sl2 : Slots S (g1.put b (.lst (ws.eraseIdx n.toNat))) M r (m.set k (some (.lst (ys.eraseIdx n.toNat)))) := ok1.s.put hMk hmk hrk ⟨hFk, .inl ⟨_, _, rfl, upd_same, tk.eraseIdx _⟩⟩
    have hmi2 : (m.set k (some (.lst (ys.eraseIdx n.toNat))))[i]? = some (some (.lst xs)) := by rw [List.getElem?_set_ne (Ne.symm c5)]; exact hmi
    obtain ⟨hF, vs, hG, t⟩ := own_lst ((hoi.le l1).putO (o := .lst (ws.eraseIdx n.toNat)) hab)
    refine ⟨a, vs, wy, rfl, rfl, ok2.gh _ _ hG, by rw [← t.length]; exact Nat.lt_of_lt_of_le c3 line_ok, ?_⟩
    exact q _ _ _ p ((g1.put b (.lst (ws.eraseIdx n.toNat))).put a (.lst (vs ++ [wy]))) r _ l1.f ⟨ok2.put hF hG (by intro x y z; cases z), sl2.put hMi hmi2 hri ⟨hF, .inl ⟨_, _, rfl, upd_same, t.append (.cons ry .nil)⟩⟩⟩
end

/-! ### two and three names at once -/
def clOf (M : Nat → Bool) (i : Nat) : Cl := if M i then .fresh else .clean
def sPr2 (i k : Nat) (fa fb : Ev J) (m : Sd) (j : J) (P : Fl → Sd → J → Prop) (E : XP J) : Prop := fa m j (fun x j1 => fb m j1 (fun y j2 => P .next ((m.set i (some x)).set k (some y)) j2) E) E
def sPr3 (i k l : Nat) (fa fb fc : Ev J) (m : Sd) (j : J) (P : Fl → Sd → J → Prop) (E : XP J) : Prop := fa m j (fun x j1 => fb m j1 (fun y j2 => fc m j2 (fun z j3 => P .next (((m.set i (some x)).set k (some y)).set l (some z)) j3) E) E) E
instance {i k : Nat} {f1 f2 : Ev J} [h1 : MoE f1] [h2 : MoE f2] : MoS (sPr2 i k f1 f2) := ⟨fun h q x => h1.mo h (fun _ _ h => h2.mo h (fun _ _ p => q _ _ _ p) x) x⟩
instance {i k l : Nat} {f1 f2 f3 : Ev J} [h1 : MoE f1] [h2 : MoE f2] [h3 : MoE f3] : MoS (sPr3 i k l f1 f2 f3) := ⟨fun h q x => h1.mo h (fun _ _ h => h2.mo h (fun _ _ h => h3.mo h (fun _ _ p => q _ _ _ p) x) x) x⟩
section
variable {S : Js J} {B : Bs} {M : Nat → Bool} {W : WX} {X : Cx} {g0 g g' : Gh} {r : St} {m : Sd} {i k l : Nat} {d : D} {v : V}
/-- no owned slot holds v -/
def Apt (M : Nat → Bool) (r : St) (m : Sd) (v : V) : Prop := ∀ k e, M k = true → m[k]? = some (some e) → r[k]? ≠ some (some v)
theorem Slots.setC (h : Slots S g M r m) (w : Val S g0 g (clOf M i) d v) (ap : M i = true → Apt M r m v) : Slots S g M (r.set i (some v)) (m.set i (some d)) := by
  unfold clOf at w
  cases hM : M i with
  | false => rw [hM] at w; exact h.set_fr hM w
  | true =>
    rw [hM] at w
    obtain ⟨a, rfl, n, o⟩ := w
    exact h.set_ow hM o fun k e _ hk he => ap hM k e hk he
theorem Slots.apt (h : Slots S g M r m) {w : Cl} (v' : Val S g g' .fresh d v) : Apt M r m v := fun k e hk he z => by
  obtain ⟨a, rfl, n, _⟩ := v'
  exact (h.apart_fresh (i := k + 1) n) k e (by omega) hk he z
theorem apt_set {r : St} {m : Sd} {v : V} (h : Apt M r m v) {i : Nat} {d : D} {u : V} (n : M i = true → u ≠ v) : Apt M (r.set i (some u)) (m.set i (some d)) v := fun k e hk he z => by
  by_cases hki : k = i
  · subst hki
    have hl : k < m.length := by
      have := (List.getElem?_eq_some_iff.mp he).1
      simpa using this
    by_cases hr : k < r.length
    · rw [List.getElem?_set_self hr] at z
      cases z
      exact n hk rfl
    · rw [List.getElem?_eq_none (by simpa using hr)] at z
      cases z
  · rw [List.getElem?_set_ne (Ne.symm hki)] at he z
    exact h k e hk he z
theorem val_in (h : Val S g0 g .fresh d v) : ∃ a o, v = .ref a ∧ g.G a = some o := by
  obtain ⟨a, rfl, _, o⟩ := h
  obtain ⟨ob, e⟩ := o.in_g
  exact ⟨a, ob, rfl, e⟩
theorem clOf_fresh (hM : M i = true) (h : Val S g0 g (clOf M i) d v) : Val S g0 g .fresh d v := by
  unfold clOf at h; rw [hM] at h; exact h
variable {a b c : Expr} {fa fb fc : Ev J} {pos px py pz pt pt2 : Pos} {kt k2 : Nat} {x y z : Str}
theorem s_pr2 (hc : X.calm = true) (hN : X.N.Nodup) (hi : X.N[i]? = some x) (hk : X.N[k]? = some y) (hik : i ≠ k) (hx : X.env.scope.names.lookup x = some .local) (hy : X.env.scope.names.lookup y = some .local)
    (ha : PE X a (rdE S B M W (clOf M i) fa)) (hb : PE X b (rdE S B M W (clOf M k) fb)) (hs1 : starEach [a, b] X.env = (false, eval a X.env) :: starEach [b] X.env) (hs2 : starEach [b] X.env = [(false, eval b X.env)])
    (hw : swappedStores [.Tuple [.Name x px, .Name y py] kt pt] (.Tuple [a, b] k2 pt2) X.env = pure (some [x, y]))
    (hs : swapsWithSole [.Tuple [.Name x px, .Name y py] kt pt] (.Tuple [a, b] k2 pt2) pos.line X.env = pure false) :
    PS X (.Assign [.Tuple [.Name x px, .Name y py] kt pt] (.Tuple [a, b] k2 pt2) pos) (rdS S B M W (sPr2 i k fa fb)) :=
  PS.imp (ps_par hc hN hi hk hik hx hy (pa_cons ha (pa_cons hb pa_nil hs2) hs1) hw hs) fun E r H ⟨g, m, j, P, Ep, ok, hf, q, xo⟩ => by
    refine ⟨g, m, j, _, Ep, ok, hf, fun _ j1 g1 v1 H1 h1 l1 ok1 w1 => ⟨g1, m, _, _, Ep, ok1, h1, fun _ j2 g2 v2 H2 p l2 ok2 w2 => ⟨v1, v2, rfl, ?_⟩, xo.le l1.f⟩, xo⟩
    refine q _ _ _ p g2 _ H2 (l1.trans l2).f ⟨ok2.b, (ok2.s.setC (w1.le l2) fun hM => ok.s.apt (w := .fresh) (clOf_fresh hM w1)).setC w2 fun hM => apt_set (ok1.s.apt (w := .fresh) (clOf_fresh hM w2)) fun hMi => ?_⟩
    obtain ⟨a1, o1, rfl, e1⟩ := val_in (clOf_fresh hMi w1)
    obtain ⟨a2, rfl, n2, _⟩ := clOf_fresh hM w2
    intro z
    cases z
    rw [n2] at e1; cases e1
end
end Mp

/-! Mp9: list(range(..)), tuple(range(..)); xs.index(i); x = [.. for ..] at once; defs; the law's end. -/
namespace Mp
open PySem PySem.Spec L2
open PyProof.Rows hiding St
variable {J : Type}

def eLrg (fi : Iv J) (m : Sd) (j : J) (P : D → J → Prop) (E : XP J) : Prop := fi m j (fun ds j1 => ds.length ≤ LINE ∧ P (.lst ds) j1) E
def eTrg (fi : Iv J) (m : Sd) (j : J) (P : D → J → Prop) (E : XP J) : Prop := fi m j (fun ds j1 => ds.length ≤ LINE ∧ P (.tup ds) j1) E
instance {fi : Iv J} [h : MoA fi] : MoE (eLrg fi) := ⟨fun p q x => h.mo p (fun _ _ ⟨l, p⟩ => ⟨l, q _ _ p⟩) x⟩
instance {fi : Iv J} [h : MoA fi] : MoE (eTrg fi) := ⟨fun p q x => h.mo p (fun _ _ ⟨l, p⟩ => ⟨l, q _ _ p⟩) x⟩
section
variable {S : Js J} {B : Bs} {M : Nat → Bool} {W : WX} {X : Cx} {e a b c : Expr} {pos p q0 q1 : Pos} {fa fb : Ev J}
theorem rg_eq (lo hi : Int) : rngD lo (hi - lo).toNat = ((List.range (hi - lo).toNat).map fun i : Nat => lo + (i : Nat)).map D.int := by
  unfold rngD; rw [List.map_map]; rfl
theorem rgV_eq (lo hi : Int) : rgV lo hi = ((List.range (hi - lo).toNat).map fun i : Nat => lo + (i : Nat)).map V.int := by
  unfold rgV; rw [List.map_map]; rfl
theorem rg_rp {F : Hp} (lo hi : Int) : RpL S F (rngD lo (hi - lo).toNat) (rgV lo hi) := by
  rw [rg_eq, rgV_eq]; exact RpL.ints _
theorem rg_ok {lo hi : Int} (h1 : -LIM ≤ lo) (h2 : lo ≤ LIM) (h3 : -LIM ≤ hi) (h4 : hi ≤ LIM) (hl : (rngD lo (hi - lo).toNat).length ≤ LINE) : RgOk lo hi := by
  rw [rngD_length] at hl
  have e1 : LIM = 2 ^ 61 := rfl
  have e2 : LINE = 1000000 := rfl
  rw [e1] at h1 h2 h3 h4
  rw [e2] at hl
  exact ⟨by omega, by omega, by omega, by omega, by omega⟩
theorem lrg_end {g1 g : Gh} {r : St} {H1 : Hp} {m : Sd} {j1 : J} {lo hi : Int} {Q : VK} (l1 : Le g g1) (ok1 : Ok S B g1 M r H1 m j1)
    (q : ∀ g' v H', Le g g' → Ok S B g' M r H' m j1 → Val S g g' .fresh (.lst (rngD lo (hi - lo).toNat)) v → Q v H') : ∀ p, H1 p = none → Q (.ref p) (upd H1 p (.lst (rgV lo hi))) := fun p hp => by
  obtain ⟨n1, n2, n3, n4⟩ := ok1.b.hn hp
  exact q (g1.see p (.lst (rgV lo hi))) _ _ (l1.trans (Le.see n2)) ⟨ok1.b.see _ hp, ok1.s.le (Le.see n2)⟩ ⟨p, rfl, l1.g.free n2, n1, .inl ⟨_, _, rfl, upd_same, rg_rp lo hi⟩⟩
theorem e_lrg1 (hc : X.calm = true) (hgl : Gl X "list") (hml : X.mg "list" = none) (hg : Gl X "range") (hm : X.mg "range" = none) (ha : PE X a (rdE S B M W .mix fa)) (hs : starEach [a] X.env = [(false, eval a X.env)])
    (hs2 : starEach [.Call (.Name "range" p) [a] [] pos] X.env = [(false, eval (.Call (.Name "range" p) [a] [] pos) X.env)]) :
    PE X (.Call (.Name "list" q0) [.Call (.Name "range" p) [a] [] pos] [] q1) (rdE S B M W .fresh (eLrg (iRng1 fa))) :=
  PE.imp (pe_listRg hc hgl hml (prg_1 hg hm ha hs) hs2) fun r H Q ⟨g, m, j, P, E, ok, hf, q, xo⟩ => by
    refine ⟨g, m, j, _, E, ok, hf, fun d j1 g1 v H1 hh l1 ok1 w => ?_, xo⟩
    obtain ⟨n, rfl, c1, c2, hl, p⟩ := hh
    have e0 : n.toNat = (n - 0).toNat := by omega
    rw [e0] at hl p
    have hL : LIM = 2 ^ 61 := rfl
    exact ⟨n, int_of w, rg_ok (by omega) (by omega) c1 c2 hl, lrg_end l1 ok1 fun g' v H' => q _ _ g' v H' p⟩
end

/-! ### xs.index(i) -/
def idxL (ns : List Int) (k : Int) : Option D := match ns.idxOf? k with | some n => some (.int (n : Nat)) | none => none
def indexD : D → D → Option D
  | .lst xs, .int k => match ints? xs with | some ns => idxL ns k | none => none
  | .tup xs, .int k => match ints? xs with | some ns => idxL ns k | none => none
  | _, _ => none
section
variable {S : Js J} {B : Bs} {M : Nat → Bool} {W : WX} {X : Cx} {e o : Expr} {pos p ap : Pos} {fo fe : Ev J} {ci : Bool}
/-- o.m(e) of a list or a tuple -/
def tBMS (K : PySem.W.Frag) (r1 r2 : V → List V → Hp → VK → Prop) (to : TE) (t : TA) : TE := fun σ H Q => to σ H fun x H1 =>
  (tyV K "list" x H1 ∧ t σ H1 fun xs H2 => r1 x xs H2 Q) ∨ ((∃ a vs, x = .ref a ∧ SqF K H1 a vs) ∧ t σ H1 fun xs H2 => r2 x xs H2 Q)
/-- the receiver's type is asked ahead of the argument: the closure says that it is a list or a tuple -/
def isSq : D → Prop
  | .lst _ => True
  | .tup _ => True
  | _ => False
def eMt (φ : D → D → Option D) (fo fe : Ev J) (m : Sd) (j : J) (P : D → J → Prop) (E : XP J) : Prop := fo m j (fun x j1 => isSq x ∧ fe m j1 (fun y j2 => ∃ z, φ x y = some z ∧ P z j2) E) E
instance {φ : D → D → Option D} {fo fe : Ev J} [h1 : MoE fo] [h2 : MoE fe] : MoE (eMt φ fo fe) := ⟨fun p q x => h1.mo p (fun _ _ ⟨l, p⟩ => ⟨l, h2.mo p (fun _ _ ⟨z, e, p⟩ => ⟨z, e, q _ _ p⟩) x⟩) x⟩
end
end Mp

/-! MpA: x = [.. for ..] at once; defs by their closures; the law's end. -/
namespace Mp
open PySem PySem.Spec L2
open PyProof.Rows hiding St
variable {J : Type}
theorem rd_ice {S : Js J} {B : Bs} {M : Nat → Bool} {W : WX} {f : Ev J} {r : St} {H : Hp} {Q : VK} (h : rdE S B M W .clean f r H Q) : rdE S B M W .fresh f r H Q := by
  obtain ⟨g, m, j, P, E, ok, hf, q, xo⟩ := h
  refine ⟨g, m, j, P, E, ok, hf, fun d j' g' v H' p l ok' w => ?_, xo⟩
  obtain ⟨a, rfl, n, o⟩ := w
  exact q d j' (g'.ice a) _ H' p (l.ice n o.1) ⟨ok'.b.ice o.1, ok.s.ice l n o.1⟩ o.ice
section
variable {S : Js J} {B : Bs} {M : Nat → Bool} {W : WX} {X : Cx} {elt tg iter : Expr} {ifs : List Expr} {scope : Scope} {own : List (Str × Nat)} {pos spos py : Pos} {fi : Iv J} {γ : Gv} {ft : Tv J} {fe : Ev J} {ks : List Nat} {c w : Bool} {i : Nat} {y : Str}
theorem s_setLc (hM : M i = false) (hc : X.calm = true) (hN : X.N.Nodup) (hy : X.N[i]? = some y) (hyl : X.env.scope.names.lookup y = some .local) (hsw : swapsWith (.ListComp elt [⟨tg, iter, ifs, 0⟩] scope pos) (some (.Name y py)) spos.line X.env = pure true)
    (hi : PI X tg iter (rdI S B M W c w fi)) (ok : BlkOk X.N X.env.scope scope own) (hks : ∀ k ∈ ks, k ∈ own.map (·.2))
    (hg : ∀ (s : Shared) (H : Hp) (C : Addr) (cl : List (Str × Addr)) (fp : List Addr), PG (X.blk s H scope (compEnvC scope cl C X.env) fp) tg (rdG S B M w ks γ)) (ht : ∀ (s : Shared) (H : Hp) (C : Addr) (cl : List (Str × Addr)) (fp : List Addr), PTs (X.blk s H scope (compEnvC scope cl C X.env) fp) ifs (rdT S B M W0 ft))
    (he : ∀ (s : Shared) (H : Hp) (C : Addr) (cl : List (Str × Addr)) (fp : List Addr), PE (X.blk s H scope (compEnvC scope cl C X.env) fp) elt (rdE S B M W0 .clean fe)) (hs : ∀ x, foldedSetIterable iter X.env x = pure x) :
    PS X (.Assign [.Name y py] (.ListComp elt [⟨tg, iter, ifs, 0⟩] scope pos) spos) (rdS S B M W (sSet i (eComp (own.map (·.2)) fi γ ft fe))) :=
  PS.imp (ps_setLc hc hN hy hyl hsw hi ok hg ht he hs) fun E r H h => sSet_rd hM (fun _ _ _ z => lc_rd hks (rd_ice z)) h
end

/-! ### a def by its closure -/
def startD (k : Nat) (ds : List D) : Sd := ds.map some ++ List.replicate (k - ds.length) none
def endF (P : D → J → Prop) : Fl → Sd → J → Prop
  | .ret d, _, j => P d j
  | .next, _, j => P .non j
  | .brk, _, _ => False
  | .cnt, _, _ => False
def runF (k n : Nat) (f : Sv J) (ds : List D) (j : J) (P : D → J → Prop) (E : Ex → J → Prop) : Prop := ds.length = n ∧ f (startD k ds) j (endF P) (fun e _ j' => E e j')
theorem endF_mo {P P' : D → J → Prop} (q : ∀ d j, P d j → P' d j) : ∀ l m j, endF P l m j → endF P' l m j
  | .ret _, _, _, h => q _ _ h
  | .next, _, _, h => q _ _ h
instance {k n : Nat} {f : Sv J} [h : MoS f] : MoF (runF k n f) := ⟨fun ⟨l, p⟩ q x => ⟨l, h.mo p (endF_mo q) fun _ _ _ => x _ _⟩⟩
theorem runF_len {k n : Nat} {f : Sv J} (ds : List D) (j : J) (P : D → J → Prop) (E : Ex → J → Prop) (h : runF k n f ds j P E) : ds.length = n := h.1
section
variable {S : Js J}
theorem slots_start {F G : Hp} {A : Addr → Prop} {N : List Str} {ds : List D} {vs : List V} {M : Nat → Bool} (hM : ∀ i, i < ds.length → M i = false) (h : RpL S F ds vs) : Slots S ⟨F, G, A⟩ M (start N vs) (startD N.length ds) := by
  have get : ∀ {i : Nat} {d : D}, (startD N.length ds)[i]? = some (some d) → ds[i]? = some d := fun {i d} e => by
    unfold startD at e
    by_cases hi : i < (ds.map some).length
    · rw [List.getElem?_append_left hi, List.getElem?_map, Option.map_eq_some_iff] at e
      obtain ⟨d', h1, h2⟩ := e
      cases h2
      exact h1
    · rw [List.getElem?_append_right (by omega), List.getElem?_replicate] at e
      split at e <;> cases e
  have lt : ∀ {i : Nat} {d : D}, ds[i]? = some d → i < ds.length := fun e => (List.getElem?_eq_some_iff.mp e).1
  refine ⟨?_, fun i d e _ => ?_, fun i d e m => ?_, fun i k a d d' e _ m _ _ _ => ?_⟩
  · unfold L2.start startD
    rw [List.length_append, List.length_append, List.length_map, List.length_map, List.length_replicate, List.length_replicate, h.length]
  · obtain ⟨v, h1, h2⟩ := h.get (get e)
    refine ⟨v, ?_, h2⟩
    unfold L2.start
    rw [List.getElem?_append_left (by rw [List.length_map]; exact (List.getElem?_eq_some_iff.mp h1).1), List.getElem?_map, h1]
    rfl
  · rw [hM i (lt (get e))] at m; cases m
  · rw [hM i (lt (get e))] at m; cases m
/-- what leaves a def -/
def WD (E : XK) : WX := fun cls d _ H => E cls d H
theorem run_end {F H : Hp} {A : Addr → Prop} {j : J} {ds : List D} {vs : List V} {N : List Str} {n : Nat} {f : Sv J} {M : Nat → Bool} {Q : VK} {E : XK} {P : D → J → Prop} {Ep : Ex → J → Prop} (fh : Same F H) (fa : ∀ b o, F b = some o → ¬ A b) (jr : S.rep j F A H) (sm : ∃ o u, H sysModules = some (.frz o u))
    (hM : ∀ i, i < n → M i = false) (rp : RpL S F ds vs) (hf : runF N.length n f ds j P Ep) (q : ∀ d j' F' A' H' v, P d j' → FPost S F A H F' A' H' j' → Rp S F' d v → Q v H') (x : ∀ e j' F' A' H' cls dx, Ep e j' → FPost S F A H F' A' H' j' → ExR S F' e cls dx → E cls dx H') :
    rdS S ⟨F, H, A⟩ M (WD E) f { nx := fun _ H' => Q .non H', rt := Q } (start N vs) H := by
  obtain ⟨hl, hf⟩ := hf
  have ok0 : Ok S ⟨F, H, A⟩ ⟨F, F, A⟩ M (start N vs) H (startD N.length ds) j :=
    ⟨⟨Same.refl _, fh, fa, jr, Same.refl _, fun b o e => .inl e, fun b z => .inl z, fun b o e _ => e, fun b e => e, sm⟩, slots_start (fun i hi => hM i (hl ▸ hi)) rp⟩
  have post : ∀ {g' : Gh} {H' : Hp} {jj : J}, OkB S ⟨F, H, A⟩ g' H' jj → FPost S F A H g'.G g'.A H' jj := fun {g' H' jj} ok =>
    ⟨ok.f0.trans ok.fg, ok.gh, ok.ga, S.frame ok.jr ok.fg fun _ _ => rfl, ok.h0, ok.g0, ok.a0, ok.h1, ok.sm⟩
  refine ⟨_, _, j, _, _, ok0, hf, fun fl m' j' p => ?_, fun e m' j' g' r' H' cls dx pe _ ok' ex => x e j' _ _ H' cls dx pe (post ok'.b) (ex.mono ok'.b.fg)⟩
  cases fl with
  | ret d => exact fun g' H' v ok rv => q _ _ _ _ H' v p (post ok) rv
  | next => exact fun g' r' H' _ ok => q _ _ _ _ H' .non p (post ok.b) .non
  | brk => exact p.elim
  | cnt => exact p.elim
end
/-- the context of a def's body -/
abbrev cxE (P : Program) (w : World) (K : PySem.W.Frag) (mg : Str → Option Value) (base : Heap) (N : List Str) (qual : Str) (scope : Scope) (f : Addr) (cd : Value) (A : Around) (outer : List Env) (s : Shared) (H : Hp) (E : XK) : Cx :=
  cxOf (L2.CX P w) P w K mg base N qual scope f cd A outer s H E
/-- .. where nothing that is raised leaves it -/
abbrev cxF (P : Program) (w : World) (K : PySem.W.Frag) (mg : Str → Option Value) (base : Heap) (N : List Str) (qual : Str) (scope : Scope) (f : Addr) (cd : Value) (A : Around) (outer : List Env) (s : Shared) (H : Hp) (E : XK) : Cx :=
  (cxOf CX0 P w K mg base N qual scope f cd A outer s H E).nox
section
variable {P : Program} {w : World} {K : PySem.W.Frag} {mg : Str → Option Value} {base : Heap} {S : Js J}
theorem takesE {N : List Str} {qual : Str} {scope : Scope} {f : Addr} {cd : Value} {A : Around} {outer : List Env} {s : Shared} {H : Hp} {E : XK} : Takes (cxE P w K mg base N qual scope f cd A outer s H E) (WD E) := takes_of rfl rfl rfl rfl
theorem ownE {N : List Str} {qual : Str} {scope : Scope} {f : Addr} {cd : Value} {A : Around} {outer : List Env} {s : Shared} {H : Hp} {E : XK} : PassesOwn (model P w) (cxE P w K mg base N qual scope f cd A outer s H E).A (cxE P w K mg base N qual scope f cd A outer s H E).env (cxE P w K mg base N qual scope f cd A outer s H E).xe := passes_of rfl
theorem FnG.ofN {k : Nat} {f : Addr} {fd : FuncData} {ps : List Str} {sp : Sp} (F : FnG P w K mg base CX0 k f fd ps sp) : FnG P w K mg base (L2.CX P w) k f fd ps sp :=
  ⟨F.len, fun A outer s H args us vs Q E hr hg he hb hv hs => codeAny_mono (F.run A outer s H args us vs Q E hr hg he hb hv hs) fun r s' h => by
    cases r with
    | error e => exact False.elim h
    | ok fl => cases fl <;> exact h⟩
theorem fnG_sp {x qual : Str} {st : Stmt} {f : Addr} {fd : FuncData} {N ps : List Str} {k : Nat} {sp : Sp} (F : L2.Fun K x qual st f fd) (Sc : FnScope N ps (defScope st)) (len : ∀ vs H Q E, sp vs H Q E → vs.length = ps.length)
    (hbody : ∀ (cdv : Value) (A : Around) (outer : List Env) (s : Shared) (H : Hp) (vs : List V) (Q : VK) (E : XK), Room k (A.deeper (envOfC qual (defScope st) s.heap.objs.size f cdv)) → (A.deeper (envOfC qual (defScope st) s.heap.objs.size f cdv)).guards = some [] → sp vs H Q E →
      ∃ t, PSs (cxF P w K mg base N qual (defScope st) f cdv A outer s H E) (defBody st) t ∧ t { nx := fun _ H' => Q .non H', rt := Q } (start N vs) H) : FnG P w K mg base CX0 (k + 1) f fd ps sp := by
  obtain ⟨oc, od, kV, doc, pm, an, cdv, ct, osl, rfl, lk, hcd⟩ := F.ex
  refine fnG_of lk hcd Sc len fun A outer s H vs Q E hr hgd hsp => ?_
  obtain ⟨t, h, q⟩ := hbody cdv A outer s H vs Q E hr hgd hsp
  exact ⟨t, h.nox, q⟩
theorem fnG_D {x qual : Str} {st : Stmt} {f : Addr} {fd : FuncData} {N ps : List Str} {n k : Nat} {M : Nat → Bool} {fs : Sv J} (F : L2.Fun K x qual st f fd) (Sc : FnScope N ps (defScope st)) (hn : ps.length = n) (hM : ∀ i, i < n → M i = false)
    (hbody : ∀ (cdv : Value) (A : Around) (outer : List Env) (s : Shared) (H : Hp) (E : XK) (B : Bs), Room k (A.deeper (envOfC qual (defScope st) s.heap.objs.size f cdv)) → (A.deeper (envOfC qual (defScope st) s.heap.objs.size f cdv)).guards = some [] →
      PSs (cxE P w K mg base N qual (defScope st) f cdv A outer s H E) (defBody st) (rdS S B M (WD E) fs)) : FnG P w K mg base (L2.CX P w) (k + 1) f fd ps (spF S n (runF N.length n fs)) := by
  obtain ⟨oc, od, kV, doc, pm, an, cdv, ct, osl, rfl, lk, hcd⟩ := F.ex
  refine fnG_of lk hcd Sc (fun vs H Q E h => ?_) fun A outer s H vs Q E hr hgd h => ?_
  · obtain ⟨_, _, _, ds, _, _, _, _, _, _, rp, hl, _⟩ := h
    rw [← rp.length, hl, hn]
  · obtain ⟨F0, A0, j, ds, P, Ep, fh, fa, jr, sm, rp, hl, hf, q, xx⟩ := h
    exact ⟨_, hbody cdv A outer s H E ⟨F0, H, A0⟩ hr hgd, run_end fh fa jr sm hM rp hf q xx⟩
end
end Mp

/-! MpB: the law's end. -/
namespace Mp
open PySem PySem.Spec L2
open PyProof.Rows hiding St
variable {J : Type}
/-- what a law is promised -/
def spLaw (K : PySem.W.Frag) : Sp := fun vs H Q _ => ∃ (a : Addr) (ns : List Int), vs = [.ref a] ∧ ns.length ≤ 63 ∧ (∀ z ∈ ns, Builtin.Int.intBits z ≤ 1048576) ∧ SqL K H a (ns.map V.int) ∧ (∃ o u, H sysModules = some (.frz o u)) ∧ ∀ H', Q (.bl true) H'
theorem law_callG {P : Program} {w : World} {K : PySem.W.Frag} {mg mb : Str → Option Value} {k : Nat} {fa a : Addr} {fd : FuncData} {x : Str} {s₁ : Shared} {vs : List Value} {ns : List Int}
    (KX : K.In s₁.heap) (hns : s₁.heap.Ns mainGlobals mg) (hb : s₁.heap.Ns builtinsNs mb) (hbb : ∀ x : Str, x ≠ "__name__" → mb x = bootBuiltins x) (hlim : s₁.heap.NoLimit) (hg : s₁.gens = #[]) (hsm : ∃ mm, s₁.heap.Ns sysModules mm) (hKs : K.lookup sysModules = none)
    (ha : s₁.heap.get? a = some { cls := .type "list", data := .seq vs.toArray }) (hi : IntsAre vs ns) (hl : ns.length ≤ 63) (hbits : ∀ z ∈ ns, Builtin.Int.intBits z ≤ 1048576) (hr : Room k callerA)
    (F : ∀ base : Heap, K.In base → base.Ns mainGlobals mg → FnG P w K mg base CX0 k fa fd [x] (spLaw K)) (hbind : ∀ (s : Shared) (u : Value), BindsTo s fd ⟨[u], []⟩ [(x, u)]) :
    codeAny (model P w) callerA (.call (.ref fa) ⟨[.ref a], []⟩) (fun r s' => r = .ok (.ret (.bool true)) ∧ OldK s₁.heap s'.heap ∧ s'.os = s₁.os ∧ AllBare s'.gens) s₁ := by
  have rv := vals_ints hi
  have lenV := hi.length
  have hl' : ns.length ≤ sizeLine := Nat.le_trans hl (by decide)
  obtain ⟨mm, om, em, pm, hm1, hm2, hm3⟩ := hsm
  have hne : a ≠ sysModules := by
    intro z
    subst z
    rw [ha] at hm1
    cases hm1
    have d' : Data.seq vs.toArray _ = Data.dict em pm := hm2
    cases d'
  -- from an abstract heap in which nothing but the script and the modules' dict may be tracked
  have core : ∀ H : Hp, (∀ b u, H b = some u → (∃ o y, u = .frz o y) ∧ (b = a ∨ b = sysModules)) → SqL K H a (ns.map V.int) → (∃ o u, H sysModules = some (.frz o u)) → HOk P w H s₁.heap → (H a ≠ none → K.lookup a = none) →
      codeAny (model P w) callerA (.call (.ref fa) ⟨[.ref a], []⟩) (fun r s' => r = .ok (.ret (.bool true)) ∧ OldK s₁.heap s'.heap ∧ s'.os = s₁.os ∧ AllBare s'.gens) s₁ := by
    intro H hO hS hSM hok hK
    have base_of : ∀ {b : Addr} {o : Obj}, s₁.heap.get? b = some o → H b = none → (hidT s₁.heap H).get? b = some o := fun e n => hidT_get e n
    have noA : ∀ {b : Addr} {o : Obj} {es : Array DictEntry} {ep : Nat}, s₁.heap.get? b = some o → o.data = .dict es ep → b ≠ sysModules → H b = none := fun {b o es ep} e d hn => by
      cases q : H b with
      | none => rfl
      | some u =>
        have e' : b = a := (hO b u q).2.resolve_right hn
        subst e'
        rw [ha] at e; cases e
        have d' : Data.seq vs.toArray _ = Data.dict es ep := d
        cases d'
    have nsK : ∀ {b : Addr} {m : Str → Option Value}, b ≠ sysModules → s₁.heap.Ns b m → (hidT s₁.heap H).Ns b m := fun {b m} hn ⟨o, es, ep, e, d, r⟩ => ⟨o, es, ep, base_of e (noA e d hn), d, r⟩
    have hKb : K.In (hidT s₁.heap H) := fun b o e => base_of (KX b o e) (by
      cases q : H b with
      | none => rfl
      | some u =>
        rcases (hO b u q).2 with z | z
        · subst z
          rw [hK (by rw [q]; simp)] at e; cases e
        · subst z
          rw [hKs] at e; cases e)
    have hM : Mod K mg (hidT s₁.heap H) := ⟨hKb, nsK (by decide) hns, ⟨mb, nsK (by decide) hb, hbb⟩, let ⟨mc, h1, h2⟩ := hlim; ⟨mc, nsK (by decide) h1, h2⟩⟩
    have e0 : Env0 P w K mg (hidT s₁.heap H) callerA [] s₁ H := ⟨rfl, hM, fun b o e => of_hidT e, Nat.le_of_eq (hidT_size _ _), trivial, fun b hb => absurd (show b ∈ ([] : List Addr) from hb) (by simp), hok, .of_eq hg⟩
    refine codeAny_mono ((F _ hKb (nsK (by decide) hns)).run callerA [] s₁ H ⟨[.ref a], []⟩ [.ref a] [.ref a] (fun v _ => v = .bl true) E0 hr rfl e0 (hbind s₁ (.ref a)) (.cons rfl .nil) ⟨a, ns, rfl, hl, hbits, hS, hSM, fun _ => rfl⟩) fun r s' h => ?_
    cases r with
    | error e => exact False.elim h
    | ok fl =>
      cases fl with
      | next => exact False.elim h
      | brk => exact False.elim h
      | cont => exact False.elim h
      | ret u =>
        obtain ⟨v, H', os, bare, un, hok', r', q⟩ := h
        have q' : v = .bl true := q
        subst q'
        obtain rfl : u = Value.bool true := r'
        refine ⟨rfl, OldK.of_keep fun b o e => ?_, os, bare⟩
        cases q : H b with
        | none => exact un.keep b o e q (by intro z; exact absurd (show b ∈ ([] : List Addr) from z) (by simp)) (by simp)
        | some u =>
          obtain ⟨⟨ob, y, rfl⟩, _⟩ := hO b u q
          have z2 := un.frzs b ob _ q
          obtain ⟨e1, _⟩ := hok b _ q
          obtain ⟨e2, _⟩ := hok' b _ z2
          rw [e] at e1; cases e1
          exact e2
  have sm2 : s₁.heap.get? sysModules = some om := hm1
  cases hk : K.lookup a with
  | some o =>
    have e := KX a o hk
    rw [ha] at e
    cases e
    refine core (fun b => if b = sysModules then some (.frz om (.own 0)) else none) (fun b u z => ?_) (.inr ⟨_, vs.toArray, _, hk, rfl, rfl, rfl, by rw [List.size_toArray, lenV]; exact hl', by simpa using rv⟩) ⟨_, _, if_pos rfl⟩ (fun b u z => ?_) fun z => absurd (if_neg hne) z
    · by_cases hb : b = sysModules
      · rw [if_pos hb] at z; cases z; exact ⟨⟨_, _, rfl⟩, .inr hb⟩
      · rw [if_neg hb] at z; cases z
    · by_cases hb : b = sysModules
      · have z' := (if_pos hb).symm.trans z
        cases z'
        subst hb
        exact ⟨sm2, om, sm2⟩
      · have z' := (if_neg hb).symm.trans z
        cases z'
  | none =>
    refine core (fun b => if b = a then some (.frz { cls := .type "list", data := .seq vs.toArray } (.lst (ns.map V.int))) else if b = sysModules then some (.frz om (.own 0)) else none) (fun b u z => ?_) (.inl (.inr ⟨{ cls := .type "list", data := .seq vs.toArray }, if_pos rfl⟩)) ⟨om, .own 0, ?_⟩ (fun b u z => ?_) fun _ => hk
    · by_cases hb : b = a
      · rw [if_pos hb] at z; cases z; exact ⟨⟨_, _, rfl⟩, .inl hb⟩
      · rw [if_neg hb] at z
        by_cases hb : b = sysModules
        · rw [if_pos hb] at z; cases z; exact ⟨⟨_, _, rfl⟩, .inr hb⟩
        · rw [if_neg hb] at z; cases z
    · show (if sysModules = a then _ else if sysModules = sysModules then _ else _) = _
      rw [if_neg (Ne.symm hne), if_pos rfl]
    · by_cases hb : b = a
      · have z' := (if_pos hb).symm.trans z
        cases z'
        subst hb
        exact ⟨ha, by rw [List.length_map]; exact hl', vs, _, rv, ha⟩
      · have z' := (if_neg hb).symm.trans z
        by_cases hb : b = sysModules
        · have z'' := (if_pos hb).symm.trans z'
          cases z''
          subst hb
          exact ⟨sm2, om, sm2⟩
        · have z'' := (if_neg hb).symm.trans z'
          cases z''
/-- the goal that k_head leaves -/
theorem walk_ofG {l : PySem.W.OpenLaw} {k : Nat} {q : Program} {loose : List Str} {XP : (Str → Option Value) → Heap → Prop} {YP : World → Heap → Prop} {d : DefRec} {K : Params → PySem.W.Frag} {x : Str}
    (hn : l.most = some 63) (hdf : d.params.defaults = []) (hr : Room k callerA) (hin : importsNone q = true) (hY : ∀ (w : World) (h : Heap), YP w h → (K w.params).In h)
    (F : ∀ (w : World) (mg : Str → Option Value) (fa : Addr) (h : Heap), (K w.params).In h → h.Ns mainGlobals mg → mg d.name = some (.ref fa) → (K w.params).lookup sysModules = none ∧
      ∃ fd : FuncData, (∀ (s : Shared) (u : Value), BindsTo s fd ⟨[u], []⟩ [(x, u)]) ∧
        ∀ base : Heap, (K w.params).In base → base.Ns mainGlobals mg → FnG l.prog w (K w.params) mg base CX0 k fa fd [x] (spLaw (K w.params))) :
    PySem.W.WalkO q loose XP YP l.row.toRowW d [] (fun f vs => PySem.call f vs) := by
  refine Att.attach_callB hn hdf fun w s₀ s₁ mg mb fa o pm cd doc a vs ns G Y ho hd hcd hmg hobj hints hlen hbits hg => ?_
  have KX := hY w _ Y
  obtain ⟨hks, fd, hb, hF⟩ := F w mg fa _ KX G.T.g hmg
  obtain ⟨mm, hmm, _⟩ := (G.T.seer hin).mods
  exact law_callG KX G.T.g G.T.b G.T.builtins G.T.nolimit hg ⟨mm, hmm⟩ hks hobj hints hlen hbits hr hF hb
/-- a reading with an unknown -/
theorem pss_ex {X : Cx} {sts : List Stmt} {α : Type} {t : α → TS} (h : ∀ x, PSs X sts (t x)) : PSs X sts (fun D σ H => ∃ x, t x D σ H) := ⟨fun pins s σ H D I ⟨x, q⟩ => (h x).run pins s σ H D I q⟩
end Mp

/-! MpC: the rules with their side conditions filled, for printed terms. -/
namespace Mp
open PySem PySem.Spec L2
open PyProof.Rows hiding St
variable {J : Type}
section
variable {S : Js J} {B : Bs} {M : Nat → Bool} {W : WX} {X : Cx} {e a b c d o elt tg iter : Expr} {es es' rest ifs : List Expr} {pos p p1 p2 p3 spos py apos : Pos} {f fa fb fc fe fo : Ev J} {fr : Av J} {x y z : Str} {i k l : Nat} {kk : Nat}
theorem xV (i : Nat) (hM : M i = false := by rfl) (hN : X.N[i]? = some x := by rfl) (hv : Vis X.env.scope x := by first | exact Or.inl rfl | exact Or.inr (Or.inl rfl) | exact Or.inr (Or.inr rfl)) (hd : (x == ("__debug__" : Str)) = false := by decide) (hcd : (x == ("__classdict__" : Str)) = false := by decide) :
    PE X (.Name x pos) (rdE S B M W .clean (eVar i)) := by
  have h := e_var (S := S) (B := B) (M := M) (W := W) (pos := pos) hN hv hd hcd
  rw [hM] at h
  exact h
theorem xO (i : Nat) (hM : M i = true := by rfl) (hN : X.N[i]? = some x := by rfl) (hv : Vis X.env.scope x := by first | exact Or.inl rfl | exact Or.inr (Or.inl rfl) | exact Or.inr (Or.inr rfl)) (hd : (x == ("__debug__" : Str)) = false := by decide) (hcd : (x == ("__classdict__" : Str)) = false := by decide) :
    PE X (.Name x pos) (rdE S B M W .mix (eVar i)) := by
  have h := e_var (S := S) (B := B) (M := M) (W := W) (pos := pos) hN hv hd hcd
  rw [hM] at h
  exact h
theorem cI {i : Int} : PE X (.Constant (.int i) kk pos) (rdE S B M W .clean (eC (.int i))) := e_c pe_int fun _ => .int _
theorem cB {i : Bool} : PE X (.Constant (.bool i) kk pos) (rdE S B M W .clean (eC (.bl i))) := e_c pe_bl fun _ => .bl _
theorem cN : PE X (.Constant .none kk pos) (rdE S B M W .clean (eC .non)) := e_c pe_non fun _ => .non
theorem cS : PE X (.Constant (.str x) kk pos) (rdE S B M W .clean (eC (.str x))) := e_c pe_str fun _ => .str _
theorem toMixC (h : PE X e (rdE S B M W .clean f)) : PE X e (rdE S B M W .mix f) := toMix h
theorem toMixF (h : PE X e (rdE S B M W .fresh f)) : PE X e (rdE S B M W .mix f) := toMix h
/-! operators: C on frozen, X on seen arguments -/
variable (hK : X.K = S.K)
theorem bAddC (hK : X.K = S.K) (ha : PE X a (rdE S B M W .clean fa)) (hb : PE X b (rdE S B M W .clean fb)) : PE X (.BinOp a .Add b pos) (rdE S B M W .clean (eOp addD fa fb)) := e_bin (ci := true) op_addD (by rw [hK]; exact s_add) ha hb
theorem bAddX (hK : X.K = S.K) (ha : PE X a (rdE S B M W .mix fa)) (hb : PE X b (rdE S B M W .mix fb)) : PE X (.BinOp a .Add b pos) (rdE S B M W .mix (eOp addD fa fb)) := e_bin (ci := false) op_addD (by rw [hK]; exact s_add) ha hb
theorem bSub (ha : PE X a (rdE S B M W .mix fa)) (hb : PE X b (rdE S B M W .mix fb)) : PE X (.BinOp a .Sub b pos) (rdE S B M W .clean (eOp subD fa fb)) := e_bin (ci := false) op_sub s_sub ha hb
theorem bMulC (ha : PE X a (rdE S B M W .clean fa)) (hb : PE X b (rdE S B M W .clean fb)) : PE X (.BinOp a .Mult b pos) (rdE S B M W .clean (eOp mulD fa fb)) := e_bin (ci := true) op_mulD s_mul ha hb
theorem bDiv (ha : PE X a (rdE S B M W .mix fa)) (hb : PE X b (rdE S B M W .mix fb)) : PE X (.BinOp a .FloorDiv b pos) (rdE S B M W .clean (eOp fdivD fa fb)) := e_bin (ci := false) op_fdivW s_fdiv ha hb
theorem bMod (ha : PE X a (rdE S B M W .mix fa)) (hb : PE X b (rdE S B M W .mix fb)) : PE X (.BinOp a .Mod b pos) (rdE S B M W .clean (eOp modD fa fb)) := e_bin (ci := false) op_mod s_mod ha hb
theorem bPow (ha : PE X a (rdE S B M W .mix fa)) (hb : PE X b (rdE S B M W .mix fb)) : PE X (.BinOp a .Pow b pos) (rdE S B M W .clean (eOp powD fa fb)) := e_bin (ci := false) op_pow s_pow ha hb
/-! comparisons -/
def ltD : D → D → Option D := cmpD fun i j => decide (i < j)
def leD : D → D → Option D := cmpD fun i j => decide (i ≤ j)
def gtD : D → D → Option D := cmpD fun i j => decide (j < i)
def geD : D → D → Option D := cmpD fun i j => decide (j ≤ i)
theorem kEq (hK : X.K = S.K) (hu : X.A.units + 64 < cLine) : OpR X (compareOp .Eq) (rEqE S.K) := hK ▸ op_eqE hu
theorem kNe (hK : X.K = S.K) (hu : X.A.units + 64 < cLine) : OpR X (compareOp .NotEq) (rNeE S.K) := hK ▸ op_neE hu
theorem tCp {op : CmpOp} {r : R2} {φ : D → D → Option D} (hr : OpR X (compareOp op) r) (ho : OpS S r φ false .clean) (ha : PE X a (rdE S B M W .mix fa)) (hb : PE X b (rdE S B M W .mix fb)) (h : op ≠ .In := by decide) (h2 : op ≠ .NotIn := by decide) : PT X (.Compare a [op] [b] pos) (rdT S B M W (tBl (eOp φ fa fb))) := t_cmp (ci := false) hr ho ha hb (nomark _ h h2)
theorem eCh {op op' : CmpOp} {r r' : R2} {φ ψ : D → D → Option D} (hr : OpR X (compareOp op) r) (hr' : OpR X (compareOp op') r') (ho : OpS S r φ false .clean) (ho' : OpS S r' ψ false .clean) (ha : PE X a (rdE S B M W .mix fa)) (hb : PE X b (rdE S B M W .mix fb)) (hc : PE X c (rdE S B M W .mix fc)) (hm : lastMarks [op, op'] [b, c] = false := by rfl) :
    PE X (.Compare a [op, op'] [b, c] pos) (rdE S B M W .clean (eChain φ ψ fa fb fc)) := e_chain (ci := false) hr hr' ho ho' ha hb hc hm
theorem tCh {op op' : CmpOp} {r r' : R2} {φ ψ : D → D → Option D} (hr : OpR X (compareOp op) r) (hr' : OpR X (compareOp op') r') (ho : OpS S r φ false .clean) (ho' : OpS S r' ψ false .clean) (ha : PE X a (rdE S B M W .mix fa)) (hb : PE X b (rdE S B M W .mix fb)) (hc : PE X c (rdE S B M W .mix fc)) (hm : lastMarks [op, op'] [b, c] = false := by rfl) :
    PT X (.Compare a [op, op'] [b, c] pos) (rdT S B M W (tBl (eChain φ ψ fa fb fc))) := t_chain (ci := false) hr hr' ho ho' ha hb hc hm
theorem tTr (hK : X.K = S.K) (h : PE X a (rdE S B M W .mix fa)) (he : ∀ whole, isTrue a X.env whole = (do let v ← whole; standAt a.pos; holding [v] (truthy v)) := by intro _; rfl) : PT X a (rdT S B M W (tOf fa)) := t_truth hK h he
/-! items, parts -/
theorem ixC (hK : X.K = S.K) (ha : PE X a (rdE S B M W .clean fa)) (hb : PE X b (rdE S B M W .clean fb)) (hs : PlainIx b := by intro _ _; rfl) : PE X (.Subscript a b pos) (rdE S B M W .clean (eOp idxD fa fb)) := e_ix (ci := true) ix_seq (by rw [hK]; exact s_idx) ha hb hs
variable {lo hi : Option Expr} {fl fh : Pv J}
theorem slC (hK : X.K = S.K) (ha : PE X a (rdE S B M W .clean fa)) (hl : PO X lo (rdP S B M W fl)) (hh : PO X hi (rdP S B M W fh)) : PE X (.Subscript a (.Slice lo hi none p2) pos) (rdE S B M W .clean (eSl sliceD fa fl fh)) := e_slice (ci := true) sl_D (by rw [hK]; exact s_slice) ha hl hh
theorem rvC (hK : X.K = S.K) (ha : PE X a (rdE S B M W .clean fa)) : PE X (.Subscript a (.Slice none none (some (.UnaryOp .USub (.Constant (.int 1) k p1) p2)) p3) pos) (rdE S B M W .clean (eUn revD fa)) := e_rev (ci := true) hK ha
/-! argument lists, displays -/
theorem aN {k : Bool} : PA X [] (rdA S B M W k aNil) := a_nil
theorem aC (ha : PE X e (rdE S B M W .clean fa)) (hr : PA X es (rdA S B M W true fr)) (hs : starEach (e :: es) X.env = (false, eval e X.env) :: starEach es X.env := by rfl) : PA X (e :: es) (rdA S B M W true (aCons fa fr)) := a_cons (k := true) ha hr hs
theorem aX (ha : PE X e (rdE S B M W .mix fa)) (hr : PA X es (rdA S B M W false fr)) (hs : starEach (e :: es) X.env = (false, eval e X.env) :: starEach es X.env := by rfl) : PA X (e :: es) (rdA S B M W false (aCons fa fr)) := a_cons (k := false) ha hr hs
theorem tpC {x1 : Nat} (ha : PA X es (rdA S B M W true fr)) : PE X (.Tuple es x1 pos) (rdE S B M W .clean (eTup fr)) := e_tup (k := true) ha
theorem lsF (ha : PA X es (rdA S B M W true fr)) : PE X (.List es pos) (rdE S B M W .fresh (eLst fr)) := e_lst ha
/-! calls -/
theorem kB {id : String} {r : List V → Hp → VK → Prop} {φ : List D → Option D} {ci : Bool} {co : Cl} (hc : CallR X (.builtin id) r) (ho : CallS S r φ ci co) (hm : X.mg x = none) (hv : bootBuiltins x = some (.builtin id)) (ha : PA X (e :: es) (rdA S B M W ci fr)) (hg : Gl X x := by rfl) (hn : x ≠ "__name__" := by decide) (hdb : (x == ("__debug__" : Str)) = false := by decide)
    (he : starEach (e :: es) X.env = (false, eval e X.env) :: starEach es X.env := by rfl) (hpl : (backTo pos (starEach es X.env)).any (·.1) = false := by rfl) : PE X (.Call (.Name x p) (e :: es) [] pos) (rdE S B M W co (eB φ fr)) := e_callB hc ho hg hm hv ha hn hdb he hpl
theorem kT {T : String} {r : List V → Hp → VK → Prop} {φ : List D → Option D} {ci : Bool} {co : Cl} (hc : CallR X (.type T) r) (ho : CallS S r φ ci co) (hm : X.mg x = none) (hv : bootBuiltins x = some (.type T)) (ha : PA X (e :: es) (rdA S B M W ci fr)) (hg : Gl X x := by rfl) (hn : x ≠ "__name__" := by decide) (hdb : (x == ("__debug__" : Str)) = false := by decide)
    (he : starEach (e :: es) X.env = (false, eval e X.env) :: starEach es X.env := by rfl) (hpl : (backTo pos (starEach es X.env)).any (·.1) = false := by rfl) : PE X (.Call (.Name x p) (e :: es) [] pos) (rdE S B M W co (eB φ fr)) := e_callTy hc ho hg hm hv ha hn hdb he hpl
/-- a def that may be called: its promise on data -/
structure Cal (S : Js J) (P : Program) (w : World) (mg : Str → Option Value) (base : Heap) (k : Nat) (x : Str) (n : Nat) (φ : Fv J) : Prop where
  ex : ∃ fn fd ps, FnG P w S.K mg base (L2.CX P w) k fn fd ps (spF S n φ) ∧ mg x = some (.ref fn) ∧ PySem.W.keepIn S.K (.ref fn) = true ∧ Binds S.K fd ps []
  ln : ∀ ds j P E, φ ds j P E → ds.length = n
theorem callC {k n : Nat} {φ : Fv J} (hK : X.K = S.K) (tk : Takes X W) (C : Cal S X.prog X.w X.mg X.base k x n φ) (hr : Room k X.A) (hgd : X.A.guards = some []) (ha : PA X (e :: es) (rdA S B M W true fr)) (hg : Gl X x := by rfl) (hdb : (x == ("__debug__" : Str)) = false := by decide)
    (he : starEach (e :: es) X.env = (false, eval e X.env) :: starEach es X.env := by rfl) (hpl : (backTo pos (starEach es X.env)).any (·.1) = false := by rfl) : PE X (.Call (.Name x p) (e :: es) [] pos) (rdE S B M W .clean (eCall φ fr)) := by
  obtain ⟨fn, fd, ps, F, h1, h2, h3⟩ := C.ex
  exact e_call (hK ▸ F) tk hr hgd hg h1 (hK ▸ h2) (hK ▸ h3) C.ln ha hdb he hpl
theorem callX [PureJ S] {k n : Nat} {φ : Fv J} (hK : X.K = S.K) (tk : Takes X W) (C : Cal S X.prog X.w X.mg X.base k x n φ) (hr : Room k X.A) (hgd : X.A.guards = some []) (ha : PA X (e :: es) (rdA S B M W false fr)) (hg : Gl X x := by rfl) (hdb : (x == ("__debug__" : Str)) = false := by decide)
    (he : starEach (e :: es) X.env = (false, eval e X.env) :: starEach es X.env := by rfl) (hpl : (backTo pos (starEach es X.env)).any (·.1) = false := by rfl) : PE X (.Call (.Name x p) (e :: es) [] pos) (rdE S B M W .mix (eCallM φ fr)) := by
  obtain ⟨fn, fd, ps, F, h1, h2, h3⟩ := C.ex
  exact e_callM (hK ▸ F) tk hr hgd hg h1 (hK ▸ h2) (hK ▸ h3) C.ln ha hdb he hpl
/-! ranges -/
theorem lR1 (hml : X.mg "list" = none) (hm : X.mg "range" = none) (ha : PE X a (rdE S B M W .mix fa)) (hc : X.calm = true := by rfl) (hgl : Gl X "list" := by rfl) (hg : Gl X "range" := by rfl) (hs : starEach [a] X.env = [(false, eval a X.env)] := by rfl)
    (hs2 : starEach [.Call (.Name "range" p) [a] [] pos] X.env = [(false, eval (.Call (.Name "range" p) [a] [] pos) X.env)] := by rfl) : PE X (.Call (.Name "list" p1) [.Call (.Name "range" p) [a] [] pos] [] p2) (rdE S B M W .fresh (eLrg (iRng1 fa))) := e_lrg1 hc hgl hml hg hm ha hs hs2
/-! what is walked over -/
theorem iSq (hK : X.K = S.K) (h : PE X e (rdE S B M W .clean f)) : PI X tg e (rdI S B M W true false (iSeq f)) := i_seq hK h
theorem iR1 (hm : X.mg "range" = none) (ha : PE X a (rdE S B M W .mix fa)) (hg : Gl X "range" := by rfl) (hs : starEach [a] X.env = [(false, eval a X.env)] := by rfl) : PI X tg (.Call (.Name "range" p) [a] [] pos) (rdI S B M W true false (iRng1 fa)) := i_rng1 hg hm ha hs
theorem iOw (i : Nat) (hK : X.K = S.K) (hM : M i = true := by rfl) (hN : X.N[i]? = some x := by rfl) (hv : Vis X.env.scope x := by first | exact Or.inl rfl | exact Or.inr (Or.inl rfl) | exact Or.inr (Or.inr rfl)) (hd : (x == ("__debug__" : Str)) = false := by decide) (hcd : (x == ("__classdict__" : Str)) = false := by decide) :
    PI X tg (.Name x pos) (rdI S B M W false false (iSeq (eVar i))) := i_own hK hM hN hv hd hcd
/-! targets -/
theorem gN (i : Nat) (hN : X.N.Nodup) (hM : M i = false := by rfl) (hi : X.N[i]? = some x := by rfl) (hx : Loc X.env.scope x := by first | exact Or.inl rfl | exact Or.inr rfl) (hf : X.fn x = true ∨ X.env.scope.names.lookup x = some .local := by first | exact Or.inl rfl | exact Or.inr rfl) : PG X (.Name x pos) (rdG S B M false [i] (gNm i)) := g_name hM hN hi hx hf
theorem gs0 : PGs X [] (rdGs S B M [] gsNil) := gs_nil
theorem gsC {ks ks' : List Nat} {γ : Gv} {γs : Gvs} (h1 : PG X e (rdG S B M false ks γ)) (h2 : PGs X es (rdGs S B M ks' γs)) (hs : (assignEach (e :: es) X.env).map (·.2) = assign e X.env :: (assignEach es X.env).map (·.2) := by rfl) : PGs X (e :: es) (rdGs S B M (ks ++ ks') (gsCons γ γs)) := gs_cons h1 h2 hs
theorem gsN_len : ∀ ds m m', gsNil ds m = some m' → ds.length = 0 := fun ds m m' h => by
  unfold gsNil at h
  split at h
  · rfl
  · cases h
theorem gsC_len {γ : Gv} {γs : Gvs} {n : Nat} (h : ∀ ds m m', γs ds m = some m' → ds.length = n) : ∀ ds m m', gsCons γ γs ds m = some m' → ds.length = n + 1 := fun ds m m' q => by
  unfold gsCons at q
  split at q
  · split at q
    · rw [List.length_cons, h _ _ _ q]
    · cases q
  · cases q
theorem gT {w : Bool} {kt n : Nat} {ks : List Nat} {γs : Gvs} (hK : X.K = S.K) (hl : ∀ ds m m', γs ds m = some m' → ds.length = n) (h : PGs X es (rdGs S B M ks γs)) (hc : X.calm = true := by rfl) (hn : (assignEach es X.env).length = n := by rfl) (hst : (assignEach es X.env).findIdx? (·.1) = none := by rfl) :
    PG X (.Tuple es kt pos) (rdG S B M w ks (gTp γs)) := g_tup hK hc h hn hst hl
/-! comprehensions -/
variable {scope : Scope} {fi : Iv J} {γ : Gv} {ft : Tv J} {ks : List Nat} {cc w : Bool}
theorem lcF (own : List (Str × Nat)) (hN : X.N.Nodup) (ok : BlkOk X.N X.env.scope scope own) (hi : PI X tg iter (rdI S B M W cc w fi))
    (hg : ∀ (s : Shared) (H : Hp) (C : Addr) (cl : List (Str × Addr)) (fp : List Addr), PG (X.blk s H scope (compEnvC scope cl C X.env) fp) tg (rdG S B M w ks γ)) (ht : ∀ (s : Shared) (H : Hp) (C : Addr) (cl : List (Str × Addr)) (fp : List Addr), PTs (X.blk s H scope (compEnvC scope cl C X.env) fp) ifs (rdT S B M W0 ft))
    (he : ∀ (s : Shared) (H : Hp) (C : Addr) (cl : List (Str × Addr)) (fp : List Addr), PE (X.blk s H scope (compEnvC scope cl C X.env) fp) elt (rdE S B M W0 .clean fe)) (hks : ∀ k ∈ ks, k ∈ own.map (·.2) := by decide) (hc : X.calm = true := by rfl) (hs : ∀ x, foldedSetIterable iter X.env x = pure x := by intro _; rfl) :
    PE X (.ListComp elt [⟨tg, iter, ifs, 0⟩] scope pos) (rdE S B M W .fresh (eComp (own.map (·.2)) fi γ ft fe)) := e_comp hc hN hi ok hks hg ht he hs
theorem ts0 : PTs X [] (rdT S B M W tYesD) := ts_nil
theorem ts1 {t : Tv J} (h : PT X c (rdT S B M W t)) : PTs X [c] (rdT S B M W t) := pts_one h
theorem setLc (i : Nat) (own : List (Str × Nat)) (hN : X.N.Nodup) (ok : BlkOk X.N X.env.scope scope own) (hi : PI X tg iter (rdI S B M W cc w fi))
    (hg : ∀ (s : Shared) (H : Hp) (C : Addr) (cl : List (Str × Addr)) (fp : List Addr), PG (X.blk s H scope (compEnvC scope cl C X.env) fp) tg (rdG S B M w ks γ)) (ht : ∀ (s : Shared) (H : Hp) (C : Addr) (cl : List (Str × Addr)) (fp : List Addr), PTs (X.blk s H scope (compEnvC scope cl C X.env) fp) ifs (rdT S B M W0 ft))
    (he : ∀ (s : Shared) (H : Hp) (C : Addr) (cl : List (Str × Addr)) (fp : List Addr), PE (X.blk s H scope (compEnvC scope cl C X.env) fp) elt (rdE S B M W0 .clean fe)) (hks : ∀ k ∈ ks, k ∈ own.map (·.2) := by decide) (hM : M i = false := by rfl) (hy : X.N[i]? = some y := by rfl) (hyl : X.env.scope.names.lookup y = some .local := by rfl)
    (hsw : swapsWith (.ListComp elt [⟨tg, iter, ifs, 0⟩] scope pos) (some (.Name y py)) spos.line X.env = pure true := by rfl) (hc : X.calm = true := by rfl) (hs : ∀ x, foldedSetIterable iter X.env x = pure x := by intro _; rfl) :
    PS X (.Assign [.Name y py] (.ListComp elt [⟨tg, iter, ifs, 0⟩] scope pos) spos) (rdS S B M W (sSet i (eComp (own.map (·.2)) fi γ ft fe))) := s_setLc hM hc hN hy hyl hsw hi ok hks hg ht he hs
end
/-! statements -/
section
variable {S : Js J} {B : Bs} {M : Nat → Bool} {W : WX} {X : Cx} {e ek a b c d o tg iter : Expr} {es : List Expr} {st : Stmt} {body body' rest : List Stmt} {pos p p1 p2 p3 pt pt2 px py pz np ap ap2 np2 : Pos} {f fa fb fc fe fk : Ev J} {fs fs' : Sv J} {tc : Tv J} {x y z : Str} {γ : Gv} {ks : List Nat} {kt k2 : Nat}
theorem zC (h1 : PS X st (rdS S B M W fs)) (h2 : PSs X rest (rdS S B M W fs')) : PSs X (st :: rest) (rdS S B M W (sSeq fs fs')) := s_cons h1 h2
theorem zSet (i : Nat) (hN : X.N.Nodup) (he : PE X e (rdE S B M W .clean fe)) (hM : M i = false := by rfl) (hi : X.N[i]? = some x := by rfl) (hx : Loc X.env.scope x := by first | exact Or.inl rfl | exact Or.inr rfl) (hs : swapsWith e (some (.Name x py)) pos.line X.env = pure false := by rfl) (hf : X.fn x = true ∨ X.env.scope.names.lookup x = some .local := by first | exact Or.inl rfl | exact Or.inr rfl) :
    PS X (.Assign [.Name x py] e pos) (rdS S B M W (sSet i fe)) := s_set hM hN hi hx he hs hf
theorem zSetO (i : Nat) (hN : X.N.Nodup) (he : PE X e (rdE S B M W .fresh fe)) (hM : M i = true := by rfl) (hi : X.N[i]? = some x := by rfl) (hx : Loc X.env.scope x := by first | exact Or.inl rfl | exact Or.inr rfl) (hs : swapsWith e (some (.Name x py)) pos.line X.env = pure false := by rfl) (hf : X.fn x = true ∨ X.env.scope.names.lookup x = some .local := by first | exact Or.inl rfl | exact Or.inr rfl) :
    PS X (.Assign [.Name x py] e pos) (rdS S B M W (sSet i fe)) := s_setO hM hN hi hx he hs hf
theorem zAsg (he : PE X e (rdE S B M W .clean fe)) (hg : PG X tg (rdG S B M false ks γ)) (hs : swapsWithSole [tg] e pos.line X.env = pure false := by rfl) (hw : swappedStores [tg] e X.env = pure none := by rfl) (h1 : (assignEach [tg] X.env).map (·.2) = [assign tg X.env] := by rfl) : PS X (.Assign [tg] e pos) (rdS S B M W (sAsg γ fe)) := s_asg he hg hs hw h1
theorem zPr2 (i k : Nat) (hN : X.N.Nodup) (ha : PE X a (rdE S B M W (clOf M i) fa)) (hb : PE X b (rdE S B M W (clOf M k) fb)) (hc : X.calm = true := by rfl) (hi : X.N[i]? = some x := by rfl) (hk : X.N[k]? = some y := by rfl) (hik : i ≠ k := by decide) (hx : X.env.scope.names.lookup x = some .local := by rfl) (hy : X.env.scope.names.lookup y = some .local := by rfl)
    (hs1 : starEach [a, b] X.env = (false, eval a X.env) :: starEach [b] X.env := by rfl) (hs2 : starEach [b] X.env = [(false, eval b X.env)] := by rfl)
    (hw : swappedStores [.Tuple [.Name x px, .Name y py] kt pt] (.Tuple [a, b] k2 pt2) X.env = pure (some [x, y]) := by rfl) (hs : swapsWithSole [.Tuple [.Name x px, .Name y py] kt pt] (.Tuple [a, b] k2 pt2) pos.line X.env = pure false := by rfl) :
    PS X (.Assign [.Tuple [.Name x px, .Name y py] kt pt] (.Tuple [a, b] k2 pt2) pos) (rdS S B M W (sPr2 i k fa fb)) := s_pr2 hc hN hi hk hik hx hy ha hb hs1 hs2 hw hs
theorem clO {i : Nat} (h : PE X e (rdE S B M W .fresh fe)) (hM : M i = true := by rfl) : PE X e (rdE S B M W (clOf M i) fe) := by unfold clOf; rw [hM]; exact h
theorem clC {i : Nat} (h : PE X e (rdE S B M W .clean fe)) (hM : M i = false := by rfl) : PE X e (rdE S B M W (clOf M i) fe) := by unfold clOf; rw [hM]; exact h
theorem mtN (i : Nat) (n : X.N[i]? = some x := by rfl) (v : Vis X.env.scope x := by first | exact Or.inl rfl | exact Or.inr (Or.inl rfl) | exact Or.inr (Or.inr rfl)) (d : (x == ("__debug__" : Str)) = false := by decide) (c : (x == ("__classdict__" : Str)) = false := by decide) : MtN X i x := ⟨n, v, d, c⟩
theorem zApp (i : Nat) (he : PE X e (rdE S B M W .clean fe)) (hx : MtN X i x := by exact mtN _) (hM : M i = true := by rfl) (hl : (ap.endLine == p.line) = true := by rfl) (hs : starEach [e] X.env = [(false, eval e X.env)] := by rfl)
    (hb : attributeBase (.Name x np) "append" X.env (eval (.Name x np) X.env) = eval (.Name x np) X.env := by rfl) (hf : ((backTo p (starEach [e] X.env)).all (fun x => !x.1) && (backToKw p (keywordEach [] X.env)).all (fun x => x.1.isSome)
      && decide (([e] : List Expr).length + ([] : List Keyword).length + (if ([] : List Keyword).isEmpty then 0 else 1) < 30)) = true := by rfl) (hsw : swapsWith (.Call (.Attribute (.Name x np) "append" ap) [e] [] p) none pos.line X.env = pure false := by rfl) :
    PS X (.Expr (.Call (.Attribute (.Name x np) "append" ap) [e] [] p) pos) (rdS S B M W (sApp i fe)) := s_app hM hx he hl hs hb hf hsw
theorem zExt (i : Nat) (he : PE X e (rdE S B M W .clean fe)) (hx : MtN X i x := by exact mtN _) (hM : M i = true := by rfl) (hl : (ap.endLine == p.line) = true := by rfl) (hs : starEach [e] X.env = [(false, eval e X.env)] := by rfl)
    (hb : attributeBase (.Name x np) "extend" X.env (eval (.Name x np) X.env) = eval (.Name x np) X.env := by rfl) (hf : ((backTo p (starEach [e] X.env)).all (fun x => !x.1) && (backToKw p (keywordEach [] X.env)).all (fun x => x.1.isSome)
      && decide (([e] : List Expr).length + ([] : List Keyword).length + (if ([] : List Keyword).isEmpty then 0 else 1) < 30)) = true := by rfl) (hsw : swapsWith (.Call (.Attribute (.Name x np) "extend" ap) [e] [] p) none pos.line X.env = pure false := by rfl) :
    PS X (.Expr (.Call (.Attribute (.Name x np) "extend" ap) [e] [] p) pos) (rdS S B M W (sExt i fe)) := s_ext hM hx he hl hs hb hf hsw
theorem zAppPop (i k : Nat) (he : PE X e (rdE S B M W .mix fe)) (hx : MtN X i x := by exact mtN _) (hy : MtN X k y := by exact mtN _) (hMi : M i = true := by rfl) (hMk : M k = true := by rfl) (hl : (ap.endLine == p.line) = true := by rfl) (hl2 : (ap2.endLine == p2.line) = true := by rfl)
    (hs : starEach [.Call (.Attribute (.Name y np2) "pop" ap2) [e] [] p2] X.env = [(false, eval (.Call (.Attribute (.Name y np2) "pop" ap2) [e] [] p2) X.env)] := by rfl) (hs2 : starEach [e] X.env = [(false, eval e X.env)] := by rfl)
    (hb : attributeBase (.Name x np) "append" X.env (eval (.Name x np) X.env) = eval (.Name x np) X.env := by rfl) (hb2 : attributeBase (.Name y np2) "pop" X.env (eval (.Name y np2) X.env) = eval (.Name y np2) X.env := by rfl)
    (hf : ((backTo p (starEach [.Call (.Attribute (.Name y np2) "pop" ap2) [e] [] p2] X.env)).all (fun x => !x.1) && (backToKw p (keywordEach [] X.env)).all (fun x => x.1.isSome)
      && decide (([.Call (.Attribute (.Name y np2) "pop" ap2) [e] [] p2] : List Expr).length + ([] : List Keyword).length + (if ([] : List Keyword).isEmpty then 0 else 1) < 30)) = true := by rfl)
    (hf2 : ((backTo p2 (starEach [e] X.env)).all (fun x => !x.1) && (backToKw p2 (keywordEach [] X.env)).all (fun x => x.1.isSome)
      && decide (([e] : List Expr).length + ([] : List Keyword).length + (if ([] : List Keyword).isEmpty then 0 else 1) < 30)) = true := by rfl)
    (hsw : swapsWith (.Call (.Attribute (.Name x np) "append" ap) [.Call (.Attribute (.Name y np2) "pop" ap2) [e] [] p2] [] p) none pos.line X.env = pure false := by rfl) :
    PS X (.Expr (.Call (.Attribute (.Name x np) "append" ap) [.Call (.Attribute (.Name y np2) "pop" ap2) [e] [] p2] [] p) pos) (rdS S B M W (sAppPop i k fe)) := s_appPop hMi hMk hx hy he hl hl2 hs hs2 hb hb2 hf hf2 hsw
variable {fb2 : Sv J} {fi : Iv J} {w : Bool}
theorem zWhile (hc : PT X c (rdT S B M W tc)) (hb : PSs X body (rdS S B M W fs)) (hp : PassesOwn (model X.prog X.w) X.A X.env X.xe := by exact PassesOwn.never) : PS X (.While c body [] pos) (rdS S B M W (sWhile tc fs)) := s_while hp hc hb
theorem zFor (hi : PI X tg iter (rdI S B M W true w fi)) (hg : PG X tg (rdG S B M w ks γ)) (hb : PSs X body (rdS S B M W fs)) (hp : PassesOwn (model X.prog X.w) X.A X.env X.xe := by exact PassesOwn.never) (hc : X.calm = true := by rfl) (hs : ∀ x, foldedSetIterable iter X.env x = pure x := by intro _; rfl) :
    PS X (.For tg iter body [] pos) (rdS S B M W (sFor fi γ fs)) := s_for hp hc hi hg hb hs
end
end Mp

/-! MpK: the built-in functions, for printed terms. -/
namespace Mp
open PySem PySem.Spec L2
open PyProof.Rows hiding St
variable {J : Type}
theorem bt_len : bootBuiltins "len" = some (.builtin "len") := by decide +kernel
theorem bt_sum : bootBuiltins "sum" = some (.builtin "sum") := by decide +kernel
theorem bt_abs : bootBuiltins "abs" = some (.builtin "abs") := by decide +kernel
theorem bt_max : bootBuiltins "max" = some (.builtin "max") := by decide +kernel
theorem bt_repr : bootBuiltins "repr" = some (.builtin "repr") := by decide +kernel
theorem bt_all : bootBuiltins "all" = some (.builtin "all") := by decide +kernel
theorem bt_sorted : bootBuiltins "sorted" = some (.builtin "sorted") := by decide +kernel
theorem bt_tuple : bootBuiltins "tuple" = some (.type "tuple") := by decide +kernel
theorem bt_list : bootBuiltins "list" = some (.type "list") := by decide +kernel
theorem bt_int : bootBuiltins "int" = some (.type "int") := by decide +kernel
theorem bt_str : bootBuiltins "str" = some (.type "str") := by decide +kernel
section
variable {S : Js J} {B : Bs} {M : Nat → Bool} {W : WX} {X : Cx} {e : Expr} {es : List Expr} {pos p : Pos} {fr : Av J} {ci : Bool}
theorem kLen (hK : X.K = S.K) (hm : X.mg "len" = none) (ha : PA X (e :: es) (rdA S B M W ci fr)) (hg : Gl X "len" := by rfl) (he : starEach (e :: es) X.env = (false, eval e X.env) :: starEach es X.env := by rfl) (hpl : (backTo pos (starEach es X.env)).any (·.1) = false := by rfl) :
    PE X (.Call (.Name "len" p) (e :: es) [] pos) (rdE S B M W .clean (eB lenB fr)) := kB cr_lenD (by rw [hK]; exact s_len) hm bt_len ha hg (by decide) (by decide) he hpl
theorem kSum (hK : X.K = S.K) (hm : X.mg "sum" = none) (ha : PA X (e :: es) (rdA S B M W ci fr)) (hg : Gl X "sum" := by rfl) (hc : X.calm = true := by rfl) (he : starEach (e :: es) X.env = (false, eval e X.env) :: starEach es X.env := by rfl) (hpl : (backTo pos (starEach es X.env)).any (·.1) = false := by rfl) :
    PE X (.Call (.Name "sum" p) (e :: es) [] pos) (rdE S B M W .clean (eB sumB fr)) := kB (cr_sumD hc) (by rw [hK]; exact s_sum) hm bt_sum ha hg (by decide) (by decide) he hpl
theorem kRepr (hK : X.K = S.K) (hgd : X.A.guards = some []) (hu : X.A.units + 64 < cLine) (hm : X.mg "repr" = none) (ha : PA X (e :: es) (rdA S B M W ci fr)) (hg : Gl X "repr" := by rfl) (he : starEach (e :: es) X.env = (false, eval e X.env) :: starEach es X.env := by rfl) (hpl : (backTo pos (starEach es X.env)).any (·.1) = false := by rfl) :
    PE X (.Call (.Name "repr" p) (e :: es) [] pos) (rdE S B M W .clean (eB reprB fr)) := kB (cr_repr hK hgd hu) s_repr hm bt_repr ha hg (by decide) (by decide) he hpl
theorem kAll (hK : X.K = S.K) (hm : X.mg "all" = none) (ha : PA X (e :: es) (rdA S B M W ci fr)) (hg : Gl X "all" := by rfl) (hc : X.calm = true := by rfl) (he : starEach (e :: es) X.env = (false, eval e X.env) :: starEach es X.env := by rfl) (hpl : (backTo pos (starEach es X.env)).any (·.1) = false := by rfl) :
    PE X (.Call (.Name "all" p) (e :: es) [] pos) (rdE S B M W .clean (eB allB fr)) := kB (cr_all hc) (by rw [hK]; exact s_all) hm bt_all ha hg (by decide) (by decide) he hpl
theorem kTupC (hK : X.K = S.K) (hm : X.mg "tuple" = none) (ha : PA X (e :: es) (rdA S B M W true fr)) (hg : Gl X "tuple" := by rfl) (he : starEach (e :: es) X.env = (false, eval e X.env) :: starEach es X.env := by rfl) (hpl : (backTo pos (starEach es X.env)).any (·.1) = false := by rfl) :
    PE X (.Call (.Name "tuple" p) (e :: es) [] pos) (rdE S B M W .clean (eB tupleB fr)) := kT (ci := true) call_tupleF (by rw [hK]; exact s_tuple) hm bt_tuple ha hg (by decide) (by decide) he hpl
theorem kLstF (hK : X.K = S.K) (hm : X.mg "list" = none) (ha : PA X (e :: es) (rdA S B M W true fr)) (hg : Gl X "list" := by rfl) (he : starEach (e :: es) X.env = (false, eval e X.env) :: starEach es X.env := by rfl) (hpl : (backTo pos (starEach es X.env)).any (·.1) = false := by rfl) :
    PE X (.Call (.Name "list" p) (e :: es) [] pos) (rdE S B M W .fresh (eB listB fr)) := kT (ci := true) call_list_of (by rw [hK]; exact s_list) hm bt_list ha hg (by decide) (by decide) he hpl
end
end Mp

/-! MpP: isinstance, in, constants of the module, items and parts of an owned list, pop. -/
namespace Mp
open PySem PySem.Spec L2
open PyProof.Rows hiding St
variable {J : Type}
theorem bt_bool : bootBuiltins "bool" = some (.type "bool") := by decide +kernel
theorem hv_of {A : Around} {k : Nat} (hr : Room k A) : A.units + 65 < cLine := by have := hr.un; omega
/-! ### isinstance(e, T), T a built-in type -/
def tyD : D → Option String
  | .non => some "NoneType"
  | .bl _ => some "bool"
  | .int _ => some "int"
  | .str _ => some "str"
  | .tup _ => some "tuple"
  | .lst _ => some "list"
  | .dct _ => some "dict"
  | _ => none
def isiD (T : String) (d : D) : Option D := match tyD d with
  | some t => match kitB t T with | some b => some (.bl b) | none => none
  | none => none
section
variable {S : Js J} {B : Bs} {M : Nat → Bool} {W : WX} {X : Cx} {e a b : Expr} {pos p p2 : Pos} {fe fa fb : Ev J} {x : Str}
theorem ty_of {G H : Hp} {d : D} {v : V} {t : String} (h : Rp S G d v) (gh : Same G H) (e : tyD d = some t) : TyX S.K H v (.type t) := by
  cases h with
  | non => cases e; exact .base .non
  | bl b => cases e; exact .base (.bl b)
  | int i => cases e; exact .base (.int i)
  | str y => cases e; exact .base (.str y)
  | tup h _ =>
    cases e
    rcases h with ⟨o, h, _⟩ | ⟨o, its, n, h1, h2, _⟩
    · exact .fTuple (gh _ _ h)
    · exact .kTuple h1 h2
  | lst h _ => cases e; exact .base (.lst (gh _ _ h))
  | dct h _ _ => cases e; exact .base (.dK (gh _ _ h))
  | jar => cases e
  | obj _ => cases e
  | ins _ _ _ => cases e
  | dtp _ _ _ => cases e
  | exc0 _ => cases e
  | exc1 _ _ _ => cases e
theorem e_isi {T : String} (hK : X.K = S.K) (hmi : X.mg "isinstance" = none) (hm : X.mg x = none) (hv : bootBuiltins x = some (.type T)) (he : PE X e (rdE S B M W .mix fe)) (hgi : Gl X "isinstance" := by rfl) (hg : Gl X x := by rfl) (hn : x ≠ "__name__" := by decide) (hd : (x == ("__debug__" : Str)) = false := by decide)
    (hs : starEach [e, .Name x p2] X.env = (false, eval e X.env) :: starEach [.Name x p2] X.env := by rfl) (hpl : (backTo pos (starEach [.Name x p2] X.env)).any (·.1) = false := by rfl) :
    PE X (.Call (.Name "isinstance" p) [e, .Name x p2] [] pos) (rdE S B M W .clean (eUn (isiD T) fe)) :=
  PE.imp (pe_callB call_isi hgi hmi (by decide +kernel) (pa_cons he (pa_cons (pe_bltn (v := .ty T) hg hm hv rfl hn hd) pa_nil rfl) hs) (by decide) (by decide) hs hpl) fun r H Q ⟨g, m, j, P, E, ok, hf, q, xo⟩ => by
    refine ⟨g, m, j, _, E, ok, hf, fun d1 j1 g1 v H1 hh l1 ok1 w => ?_, xo⟩
    obtain ⟨z, h2, p⟩ := hh
    unfold isiD at h2
    split at h2
    · rename_i t ht
      split at h2
      · rename_i bb hb
        cases h2
        exact ⟨v, .ty T, .type t, .type T, bb, rfl, .ty T, by rw [hK]; exact ty_of w ok1.b.gh ht, kit_ty hb, q _ _ g1 _ H1 p l1 ok1 (.bl _)⟩
      · cases h2
    · cases h2
/-! ### x in xs, a list or a tuple of plain data -/
def inB (x y : D) : Option Bool := match py x, py y with
  | some p, some (.list ds) => if SeqAt.shaped p && SeqAt.shaped (.list ds) then some (ds.any fun z => PyData.eqv z p) else none
  | some p, some (.tuple ds) => if SeqAt.shaped p && SeqAt.shaped (.tuple ds) then some (ds.any fun z => PyData.eqv z p) else none
  | _, _ => none
def inD (x y : D) : Option D := match inB x y with | some b => some (.bl b) | none => none
def ninD (x y : D) : Option D := match inB x y with | some b => some (.bl (!b)) | none => none
def rInTu (K : PySem.W.Frag) : R2 := fun x y H Q => ∃ d ds, Dp K H x d ∧ Dp K H y (.tuple ds) ∧ SeqAt.shaped d = true ∧ SeqAt.shaped (.tuple ds) = true ∧ Q (.bl (ds.any fun z => PyData.eqv z d)) H
def rNotInTu (K : PySem.W.Frag) : R2 := fun x y H Q => ∃ d ds, Dp K H x d ∧ Dp K H y (.tuple ds) ∧ SeqAt.shaped d = true ∧ SeqAt.shaped (.tuple ds) = true ∧ Q (.bl (!ds.any fun z => PyData.eqv z d)) H
theorem op_inTu (hu : X.A.units + 65 < cLine) : OpR X (compareOp .In) (rInTu X.K) := by
  intro pins s σ H x y v u Q I rx ry h
  obtain ⟨d, ds, hd, he, sd, se, q⟩ := h
  obtain ⟨as, a1⟩ := Dp.reads I d x v hd rx
  obtain ⟨bs, a2⟩ := Dp.reads I (.tuple ds) y u he ry
  exact SeqAt.in_tuple_reads a2 a1 (SeqAt.canLay_of_shaped se) (SeqAt.canLay_of_shaped sd) (room_in_shaped sd hu) ⟨.bl _, H, I, rfl, q⟩
theorem inB_cases {F : Hp} {d1 d2 : D} {v1 v2 : V} {b : Bool} (h1 : Rp S F d1 v1) (h2 : Rp S F d2 v2) (e : inB d1 d2 = some b) :
    (∃ p ds, Dp S.K F v1 p ∧ Dp S.K F v2 (.list ds) ∧ SeqAt.shaped p = true ∧ SeqAt.shaped (.list ds) = true ∧ (ds.any fun z => PyData.eqv z p) = b) ∨
    ∃ p ds, Dp S.K F v1 p ∧ Dp S.K F v2 (.tuple ds) ∧ SeqAt.shaped p = true ∧ SeqAt.shaped (.tuple ds) = true ∧ (ds.any fun z => PyData.eqv z p) = b := by
  unfold inB at e
  split at e
  · split at e
    · rename_i p ds hp hq hs
      rw [Bool.and_eq_true] at hs
      cases e
      exact .inl ⟨p, ds, dp_of h1 hp (noDict hs.1), dp_of h2 hq (noDict hs.2), hs.1, hs.2, rfl⟩
    · cases e
  · split at e
    · rename_i p ds hp hq hs
      rw [Bool.and_eq_true] at hs
      cases e
      exact .inr ⟨p, ds, dp_of h1 hp (noDict hs.1), dp_of h2 hq (noDict hs.2), hs.1, hs.2, rfl⟩
    · cases e
  · cases e
theorem s_in {ci : Bool} : OpS S (fun x y H Q => rInD S.K x y H Q ∨ rInTu S.K x y H Q) inD ci .clean := by
  intro B g H j d1 d2 d v1 v2 Q ok h1 h2 e q
  unfold inD at e
  split at e
  · rename_i b he
    cases e
    rcases inB_cases h1 h2 he with ⟨p, ds, c1, c2, c3, c4, c5⟩ | ⟨p, ds, c1, c2, c3, c4, c5⟩
    · exact .inl ⟨p, ds, Dp_mono (ok.sub ci) c1, Dp_mono (ok.sub ci) c2, c3, c4, by rw [c5]; exact ans (B := B) ok q fun _ => .bl _⟩
    · exact .inr ⟨p, ds, Dp_mono (ok.sub ci) c1, Dp_mono (ok.sub ci) c2, c3, c4, by rw [c5]; exact ans (B := B) ok q fun _ => .bl _⟩
  · cases e
theorem kIn (hK : X.K = S.K) (hu : X.A.units + 65 < cLine) : OpR X (compareOp .In) (fun x y H Q => rInD S.K x y H Q ∨ rInTu S.K x y H Q) := hK ▸ (op_inD hu).or (op_inTu hu)
theorem eIn {op : CmpOp} {r : R2} {φ : D → D → Option D} (hr : OpR X (compareOp op) r) (ho : OpS S r φ false .clean) (ha : PE X a (rdE S B M W .mix fa)) (hb : PE X b (rdE S B M W .mix fb)) (h : behindInMarks op b = false := by rfl) : PE X (.Compare a [op] [b] pos) (rdE S B M W .clean (eOp φ fa fb)) := e_cmp (ci := false) hr ho ha hb h
theorem tIn {op : CmpOp} {r : R2} {φ : D → D → Option D} (hr : OpR X (compareOp op) r) (ho : OpS S r φ false .clean) (ha : PE X a (rdE S B M W .mix fa)) (hb : PE X b (rdE S B M W .mix fb)) (h : behindInMarks op b = false := by rfl) : PT X (.Compare a [op] [b] pos) (rdT S B M W (tBl (eOp φ fa fb))) := t_cmp (ci := false) hr ho ha hb h
/-! ### constants of the module -/
theorem gI {i : Int} (hm : ∃ t, X.mg x = some (.int i t)) (hg : Gl X x := by rfl) (hd : (x == ("__debug__" : Str)) = false := by decide) : PE X (.Name x pos) (rdE S B M W .clean (eC (.int i))) := by
  obtain ⟨t, h⟩ := hm
  exact e_c (pe_glob (v := .int i) hg h ⟨t, rfl⟩ hd) fun _ => .int _
theorem gS {i : Str} (hm : ∃ t, X.mg x = some (.str i t)) (hg : Gl X x := by rfl) (hd : (x == ("__debug__" : Str)) = false := by decide) : PE X (.Name x pos) (rdE S B M W .clean (eC (.str i))) := by
  obtain ⟨t, h⟩ := hm
  exact e_c (pe_glob (v := .str i) hg h ⟨t, rfl⟩ hd) fun _ => .str _
/-! ### items and parts of an owned list: they are frozen -/
end
/-! ### γ = i.pop(e) -/
def sPopAt (i : Nat) (fe : Ev J) (γ : Gv) (m : Sd) (j : J) (P : Fl → Sd → J → Prop) (E : XP J) : Prop :=
  ∃ ys, m[i]? = some (some (.lst ys)) ∧ fe m j (fun d j1 => ∃ n y m1, d = .int n ∧ 0 ≤ n ∧ n < (ys.length : Int) ∧ ys.length ≤ LINE ∧ ys[n.toNat]? = some y ∧ γ y (m.set i (some (.lst (ys.eraseIdx n.toNat)))) = some m1 ∧ P .next m1 j1) E
instance {i : Nat} {fe : Ev J} {γ : Gv} [h1 : MoE fe] : MoS (sPopAt i fe γ) := ⟨fun ⟨ys, e, h⟩ q x => ⟨ys, e, h1.mo h (fun _ _ ⟨n, y, m1, a1, a2, a3, a4, a5, a6, p⟩ => ⟨n, y, m1, a1, a2, a3, a4, a5, a6, q _ _ _ p⟩) x⟩⟩
section
variable {S : Js J} {B : Bs} {M : Nat → Bool} {W : WX} {X : Cx} {e tg : Expr} {pos p np ap : Pos} {fe : Ev J} {x : Str} {γ : Gv} {ks : List Nat}
end
section
@[simp] theorem isi_int {i : Int} : isiD "int" (.int i) = some (.bl true) := rfl
@[simp] theorem isi_bool {i : Int} : isiD "bool" (.int i) = some (.bl false) := rfl
@[simp] theorem isi_tup {xs : List D} : isiD "tuple" (.tup xs) = some (.bl true) := rfl
end
end Mp

/-! MpT: sorted, max and min of a tuple of ints. -/
namespace SrtO
open PySem PySem.Spec PyProof.Rows
section
variable {prog : Program} {w : World} {A : Around} {E : Value → Shared → Prop} {s : Shared}
/-- a tuple's items, gathered into a list -/
theorem gather_tup {l : Addr} {vs : List Value} {Q : List Value → Shared → Prop} (hl : IsTup s.heap l vs.toArray) (hsz : vs.length ≤ sizeLine)
    (h : Q vs { s with heap := (s.heap.push (seqObj "list" #[] 0)).update s.heap.objs.size (Obj.mapSeq (· ++ vs.toArray)) }) : wpAny (model prog w) A (collect (.ref l)) Q E s := by
  obtain ⟨o, hob, hcl, n, hda⟩ := id hl
  unfold collect
  refine wpAny_bind (wpAny_runValue (codeAny_builtin entry_proto_collect' ?_))
  show wpAny _ _ (do again (.builtin "list.__iadd__" ⟨[← newList [], .ref l], []⟩)) _ _ s
  refine wpAny_bind (wpAny_newList (wpAny_pure ⟨Code.quiet_builtin _ (by decide +kernel), codeAny_builtin entry_list_iadd' ?_⟩))
  show wpAny _ _ (Builtin.List.listExtendWith (.ref s.heap.objs.size) (.ref l) (.ref s.heap.objs.size)) _ _ { s with heap := s.heap.push (seqObj "list" #[] 0) }
  unfold Builtin.List.listExtendWith
  have hob' : (s.heap.push (seqObj "list" #[] 0)).get? l = some o := Heap.get?_push_of_some _ hob
  refine wpAny_bind (wpAny_typeOf (T := "tuple") ⟨o, hob', hcl⟩ ?_)
  have ht : (Value.type "tuple" == Value.type "tuple") = true := by rfl
  rw [if_pos (by rw [ht]; simp)]
  refine wpAny_bind (listItems_at hob' hda ?_)
  refine wpAny_bind (listItems_at (xs := #[]) (n := 0) (Heap.get?_push_size _ rfl) rfl ?_)
  rw [if_neg (by simp)]
  refine wpAny_bind (listUpdate_at (xs := #[]) (n := 0) (Heap.get?_push_size _ rfl) rfl ?_ (Nat.zero_le _) (by show (#[] ++ vs.toArray).size ≤ sizeLine + 1; simp only [Array.size_append, List.size_toArray, List.length_nil]; omega))
  refine wpAny_pure ?_
  show wpAny (model prog w) A (do
      let ob ← load s.heap.objs.size
      match ob.data with
      | .seq xs _ => pure xs.toList
      | _ => unsupported "internal:collect") Q E { s with heap := (s.heap.push (seqObj "list" #[] 0)).update s.heap.objs.size (Obj.mapSeq (· ++ vs.toArray)) }
  refine wpAny_bind (wpAny_load (get?_update_seq (Heap.get?_push_size _ rfl) _) ?_)
  show wpAny _ _ (pure ((#[] : Array Value) ++ vs.toArray).toList) Q E _
  rw [show ((#[] : Array Value) ++ vs.toArray).toList = vs by simp]
  exact wpAny_pure h
theorem sorted_ordTup {l : Addr} {vs : List Value} {ltv : Value → Value → Bool} {Q : Value → Shared → Prop} (O : Swo ltv) (hl : IsTup s.heap l vs.toArray) (hz : vs.length ≤ sizeLine)
    (hS : 2 ≤ vs.length → ∀ (h₁ : Heap) (a : Addr), h₁.get? a = some (seqObj "list" vs.toArray 0) → (∀ b o, s.heap.get? b = some o → b ≠ a ∧ h₁.get? b = some o) → SortableO prog w A.in1.in1 { s with heap := h₁ } a vs ltv)
    (h : ∀ out : List Value, Srtd ltv out → Stb ltv out vs → Q (.ref (s.heap.objs.size + 1)) { s with heap := sortedAll s.heap vs out.toArray }) :
    wpAny (model prog w) A (call (.builtin "sorted") [.ref l]) Q E s := by
  refine Calls.call_function_entry kind_sorted plain_sorted entry_sorted (args_sorted1 _) ?_
  unfold Builtin.«sorted»
  refine wpAny_bind (m := checkCount "sorted" 1 1 _) (wpAny_pure ?_)
  refine wpAny_bind (gather_tup hl hz ?_)
  refine wpAny_bind (wpAny_newList ?_ hz)
  generalize hP : (s.heap.push (seqObj "list" #[] 0)).update s.heap.objs.size (Obj.mapSeq (· ++ vs.toArray)) = P at *
  have hsz : P.objs.size = s.heap.objs.size + 1 := by rw [← hP, Heap.size_update, size_push']
  have hnew : (P.push (seqObj "list" vs.toArray 0)).get? (s.heap.objs.size + 1) = some (seqObj "list" vs.toArray 0) := by
    rw [← hsz]; exact Heap.get?_push_size _ rfl
  have old : ∀ b o, s.heap.get? b = some o → b ≠ s.heap.objs.size + 1 ∧ (P.push (seqObj "list" vs.toArray 0)).get? b = some o := fun b o q => by
    have hlt : b < s.heap.objs.size := Heap.lt_size q
    refine ⟨Nat.ne_of_lt (Nat.lt_succ_of_lt hlt), Heap.get?_push_of_some _ ?_⟩
    rw [← hP, Heap.get?_update_ne _ _ _ _ (Nat.ne_of_lt hlt)]
    exact Heap.get?_push_of_some _ q
  show wpAny _ _ _ _ _ { s with heap := P.push (seqObj "list" vs.toArray 0) }
  rw [hsz]
  refine wpAny_bind (wpAny_holding (wpAny_call_entry slot_list_sort ⟨_, hnew, rfl⟩ entry_list_sort (list_sort_ord O hnew hz (fun h2 => hS h2 _ _ hnew old) fun out hs hb => ⟨_, rfl, ?_⟩) (args_list_sort _)))
  subst hP
  exact wpAny_pure ⟨_, rfl, h out hs hb⟩
end
end SrtO
namespace Mp
open PySem PySem.Spec L2
open PyProof.Rows hiding St
section
variable {X : Cx}
def rSortedT (K : PySem.W.Frag) : List V → Hp → VK → Prop := fun vs H Q => ∃ (a : Addr) (ns : List Int), vs = [V.ref a] ∧ SqT K H a (ns.map V.int) ∧
  ∀ (ns' : List Int) (p : Addr), ns'.Perm ns → ns'.Pairwise (· ≤ ·) → H p = none → Q (.ref p) (upd H p (.lst (ns'.map V.int)))
theorem cr_sortedT : CallR X (.builtin "sorted") (rSortedT X.K) := by
  intro pins s σ H vs us Q I r h
  obtain ⟨a, ns, rfl, hs, q⟩ := h
  obtain ⟨its, rv, hl, hz⟩ := I.tuple hs
  rw [Vals.ref1 r]
  have hi := rv.ints
  refine SrtO.sorted_ordTup SrtO.swo_int hl (by rw [← rv.length]; exact hz) (fun h2 h₁ a' _ _ => SrtO.ints_sortable hi h2) fun out h1 h2 => ?_
  obtain ⟨k1, k2, k3⟩ := SrtO.ints_out hi h1 h2
  obtain ⟨ep, hat⟩ := PyProof.Rows.sortedAll_at s.heap its out.toArray
  refine ⟨.ref _, upd H (s.heap.objs.size + 1) (.lst ((out.map SrtO.iv).map V.int)), I.laid (t' := s.toks) (fun _ _ => PyProof.Rows.sortedAll_old) (Nat.le_succ _) ⟨?_, out, ep, vals_of_ints k1, hat⟩, rfl, q _ _ k2 k3 (I.hok.fresh (Nat.le_succ _))⟩
  rw [List.length_map, k2.length_eq]
  rwa [List.length_map] at hz
def rMaxT (K : PySem.W.Frag) : List V → Hp → VK → Prop := fun vs H Q => ∃ (a : Addr) (ns : List Int), vs = [V.ref a] ∧ SqT K H a (ns.map V.int) ∧ 0 < ns.length ∧ ∀ m, m ∈ ns → (∀ y, y ∈ ns → y ≤ m) → Q (.int m) H
theorem cr_maxT (hc : X.calm = true) : CallR X (.builtin "max") (rMaxT X.K) := by
  intro pins s σ H vs us Q I r h
  obtain ⟨a, ns, rfl, hs, hne, q⟩ := h
  obtain ⟨its, rv, ht, hz⟩ := I.tuple hs
  rw [Vals.ref1 r]
  have hlen : its.length = ns.length := by have := rv.length; rw [List.length_map] at this; exact this.symm
  have hT : s.heap.IsTuple a its.toArray := ht
  refine call_max_walk (wpAny_pyIter_tuple hT ?_)
  have hlt : a < s.heap.objs.size := by
    obtain ⟨o, ho, _⟩ := ht
    exact Heap.lt_size ho
  have hval : ∀ i v, its.toArray[i]? = some v → ∃ t, v = Value.int (ns.getD i 0) t := fun i v hv => by
    have hi : i < ns.length := by
      have := (Array.getElem?_eq_some_iff.mp hv).1
      simpa [hlen] using this
    obtain ⟨u, hu, t, hu2⟩ := rv.get (i := i) (x := .int ns[i]) (by simp [hi])
    have e : its[i]? = some v := by simpa using hv
    rw [hu] at e
    cases e
    exact ⟨t, by rw [hu2]; simp [List.getD_eq_getElem?_getD, hi]⟩
  refine ⟨_, _, _, _, _, _, _, rfl, Walks.tuple (A := X.A.in1) (I.ok.hd hc) _ a (Nat.ne_of_lt hlt) its.toArray, ⟨⟨_, Heap.get?_push_size _ rfl, rfl, rfl⟩, ?_⟩, ?_, by simpa [hlen] using hne, CmpOf.ints_gt (fun i => ns.getD i 0) hval, fun v h' tk hP hk => ?_⟩
  · obtain ⟨o, ho, hc2⟩ := ht
    exact ⟨o, Heap.get?_push_of_some _ ho, hc2⟩
  · intro b hb
    show b < (s.heap.push _).objs.size
    rw [Heap.size_push]
    rcases List.mem_cons.mp hb with e | hb
    · subst e; exact Nat.lt_succ_self _
    · rcases List.mem_cons.mp hb with e | hb
      · subst e; exact Nat.lt_succ_of_lt hlt
      · cases hb
  · obtain ⟨t, rfl⟩ := hval _ v hP
    obtain ⟨m1, m2⟩ := argBest_gt (fun i => ns.getD i 0) (its.toArray.size - 1)
    have hs2 : its.toArray.size = ns.length := by simp [hlen]
    refine ⟨.int _, H, I.kept fun b o eo => hk b o (fun hm => by
      rcases List.mem_cons.mp hm with e1 | hm
      · exact absurd (e1 ▸ Heap.lt_size eo) (Nat.lt_irrefl _)
      · cases hm) (Heap.get?_push_of_some _ eo), ⟨_, rfl⟩, q _ ?_ fun y hy => ?_⟩
    · have hb : argBest (fun i j => decide (ns.getD i 0 > ns.getD j 0)) (its.toArray.size - 1) < ns.length := by omega
      rw [List.getD_eq_getElem?_getD, List.getElem?_eq_getElem hb]
      exact List.getElem_mem hb
    · obtain ⟨i, hi, rfl⟩ := List.mem_iff_getElem.mp hy
      have := m2 i (by omega)
      rw [List.getD_eq_getElem?_getD, List.getElem?_eq_getElem hi] at this
      exact this
end
/-! by data -/
def sortD : List D → Option D
  | [.lst xs] => match ints? xs with | some ns => some (.lst ((isort ns).map D.int)) | none => none
  | [.tup xs] => match ints? xs with | some ns => some (.lst ((isort ns).map D.int)) | none => none
  | _ => none
def maxD : List D → Option D
  | [.int i, .int k] => some (.int (if k > i then k else i))
  | [.lst xs] => match ints? xs with | some (a :: r) => some (.int (maxL a r)) | _ => none
  | [.tup xs] => match ints? xs with | some (a :: r) => some (.int (maxL a r)) | _ => none
  | _ => none
section
variable {J : Type} {S : Js J} {B : Bs} {M : Nat → Bool} {W : WX} {X : Cx} {e : Expr} {es : List Expr} {pos p : Pos} {fr : Av J} {ci : Bool}
theorem s_sortD : CallS S (fun vs H Q => rSortedI S.K vs H Q ∨ rSortedT S.K vs H Q) sortD ci .fresh := by
  intro B g H j ds d vs Q ok h e q
  unfold sortD at e
  split at e
  · rename_i xs
    exact .inl (s_sorted (ci := ci) B g H j _ d vs Q ok h e q)
  · rename_i xs
    split at e
    · rename_i ns hn
      cases e
      have hx := ints?_some hn
      subst hx
      cases h with
      | cons h1 h2 =>
        cases h2
        obtain ⟨a, ws, rfl, ha, ra⟩ := tup_of h1
        have hv := RpL.of_ints ra
        subst hv
        refine .inr ⟨a, ns, rfl, (ha.same (ok.sub ci)).t, fun ns' p hp hs np => ?_⟩
        have e2 := isort_unique hp hs
        subst e2
        obtain ⟨n1, n2, n3, n4⟩ := ok.hn np
        exact q (g.see p (.lst ((isort ns).map V.int))) _ _ (Le.see n2) (ok.see _ np) ⟨p, rfl, n2, n1, .inl ⟨_, _, rfl, upd_same, RpL.ints _⟩⟩
    · cases e
  · cases e
theorem s_maxD : CallS S (fun vs H Q => rMaxD S.K vs H Q ∨ rMaxT S.K vs H Q) maxD ci .clean := by
  intro B g H j ds d vs Q ok h e q
  unfold maxD at e
  split at e
  · exact .inl (s_max (ci := ci) B g H j _ d vs Q ok h e q)
  · exact .inl (s_max (ci := ci) B g H j _ d vs Q ok h e q)
  · rename_i xs
    split at e
    · rename_i a0 r0 hn
      cases e
      have hx := ints?_some hn
      subst hx
      cases h with
      | cons h1 h2 =>
        cases h2
        obtain ⟨a, ws, rfl, ha, ra⟩ := tup_of h1
        have hv := RpL.of_ints ra
        subst hv
        refine .inr ⟨a, a0 :: r0, rfl, (ha.same (ok.sub ci)).t, by simp, fun m hm hmax => ?_⟩
        obtain ⟨m1, m2⟩ := maxL_spec r0 a0
        have e2 : m = maxL a0 r0 := Int.le_antisymm (m2 m hm) (hmax _ m1)
        subst e2
        exact q g _ H (Le.refl g) ok (.int _)
    · cases e
  · cases e
theorem kSortD (hK : X.K = S.K) (hm : X.mg "sorted" = none) (ha : PA X (e :: es) (rdA S B M W ci fr)) (hg : Gl X "sorted" := by rfl) (he : starEach (e :: es) X.env = (false, eval e X.env) :: starEach es X.env := by rfl) (hpl : (backTo pos (starEach es X.env)).any (·.1) = false := by rfl) :
    PE X (.Call (.Name "sorted" p) (e :: es) [] pos) (rdE S B M W .fresh (eB sortD fr)) := kB (cr_sortedI.or cr_sortedT) (by rw [hK]; exact s_sortD) hm bt_sorted ha hg (by decide) (by decide) he hpl
theorem kMaxD (hK : X.K = S.K) (hm : X.mg "max" = none) (ha : PA X (e :: es) (rdA S B M W ci fr)) (hg : Gl X "max" := by rfl) (hc : X.calm = true := by rfl) (he : starEach (e :: es) X.env = (false, eval e X.env) :: starEach es X.env := by rfl) (hpl : (backTo pos (starEach es X.env)).any (·.1) = false := by rfl) :
    PE X (.Call (.Name "max" p) (e :: es) [] pos) (rdE S B M W .clean (eB maxD fr)) := kB ((cr_maxD hc).or (cr_maxT hc)) (by rw [hK]; exact s_maxD) hm bt_max ha hg (by decide) (by decide) he hpl
end
@[simp] theorem maxD_i {a b : Int} : maxD [.int a, .int b] = some (.int (if b > a then b else a)) := rfl
theorem sort_t {ns : List Int} : sortD [.tup (ns.map D.int)] = some (.lst ((isort ns).map D.int)) := by
  show (match ints? (ns.map D.int) with | some ns => some (D.lst ((isort ns).map D.int)) | none => none) = _
  rw [ints?_map]
theorem sort_l {ns : List Int} : sortD [.lst (ns.map D.int)] = some (.lst ((isort ns).map D.int)) := by
  show (match ints? (ns.map D.int) with | some ns => some (D.lst ((isort ns).map D.int)) | none => none) = _
  rw [ints?_map]
end Mp

/-! MpJ: the random source of the laws k01 to k10, k71 to k78. -/
namespace Mp
open PySem PySem.Spec L2
open PyProof.Rows hiding St
/-! ### a def by a function on data (for the sources alone) -/
abbrev FvO (J : Type) := List D → J → Option (D × J)
def spFO {J : Type} (S : Js J) (n : Nat) (φ : FvO J) : Sp := fun vs H Q _ => ∃ F A j ds d j', Same F H ∧ (∀ b o, F b = some o → ¬ A b) ∧ S.rep j F A H ∧ (∃ o u, H sysModules = some (.frz o u)) ∧ RpL S F ds vs ∧ ds.length = n ∧ φ ds j = some (d, j') ∧
  ∀ F' A' H' v, FPost S F A H F' A' H' j' → Rp S F' d v → Q v H'
structure LJ where
  cells : List Int
  n : Nat
  great : List Int
  hc : cells ≠ []
  hl : cells.length ≤ 100
  hg : great.length ≤ 100
def goR : List Int → Int → Option (Int × List Int)
  | [], _ => none
  | r :: rs, k => if 0 < r then some (r % k, (r / k) :: rs) else goR rs k
def hash1 (c : Int) (n : Nat) : Int := (c % 4294967291 + 2246822519 * ((n : Int) + 1)) % 4294967291
def hash2 (s : Int) : Int := s * s % 4294967279 * 2654435761 % 4294967291
def hash3 (s : Int) (n : Nat) : Int := (s + 374761393 * (n : Int)) ^ (2 : Nat) % 4294967231
def hashV (c : Int) (n : Nat) : Int := hash3 (hash2 (hash1 c n)) n
def cellAt (cells : List Int) (n : Nat) : Int := cells.getD (n % cells.length) 0
theorem goR_len : ∀ {gs : List Int} {k v : Int} {gs' : List Int}, goR gs k = some (v, gs') → gs'.length ≤ gs.length
  | [], _, _, _, h => by cases h
  | r :: rs, k, v, gs', h => by
    unfold goR at h
    split at h
    · cases h; simp
    · exact Nat.le_trans (goR_len h) (by simp)
def LJ.lift (j : LJ) (k : Int) : Int × LJ := match h : goR j.great.reverse k with
  | some (v, gs) => (v, ⟨j.cells, j.n + 1, gs.reverse, j.hc, j.hl, by have := goR_len h; have := j.hg; simp at *; omega⟩)
  | none => (hashV (cellAt j.cells j.n) j.n / 8 % k, ⟨j.cells, j.n + 1, [], j.hc, j.hl, by simp⟩)
theorem goR_rng : ∀ {gs : List Int} {k v : Int} {gs' : List Int}, 0 < k → goR gs k = some (v, gs') → 0 ≤ v ∧ v < k
  | [], _, _, _, _, h => by cases h
  | r :: rs, k, v, gs', hk, h => by
    unfold goR at h
    split at h
    · cases h; exact ⟨Int.emod_nonneg _ (by omega), Int.emod_lt_of_pos _ hk⟩
    · exact goR_rng hk h
theorem LJ.lift_rng (j : LJ) {k : Int} (hk : 0 < k) : 0 ≤ (j.lift k).1 ∧ (j.lift k).1 < k := by
  unfold LJ.lift
  split
  · rename_i h; exact goR_rng hk h
  · exact ⟨Int.emod_nonneg _ (by omega), Int.emod_lt_of_pos _ hk⟩
theorem LJ.lift_n (j : LJ) (k : Int) : (j.lift k).2.n = j.n + 1 := by
  unfold LJ.lift
  split <;> rfl
def NMAX : Nat := 1000000000
def liftF : FvO LJ := fun ds j => match ds with
  | [.jar, .int k] => if decide (0 < k) && sg k && decide (j.n < NMAX) then some (.int (j.lift k).1, (j.lift k).2) else none
  | _ => none
/-- how it lies: the list at R, its cells at c, its great numbers at e -/
def repL (R : Addr) (j : LJ) (A : Addr → Prop) (H : Hp) : Prop := ∃ c e, c ≠ R ∧ e ≠ R ∧ c ≠ e ∧ H R = some (.lst [.ref c, .int (j.n : Nat), .ref e]) ∧ H c = some (.lst (j.cells.map V.int)) ∧ H e = some (.lst (j.great.map V.int)) ∧ ∀ b, A b ↔ b = R ∨ b = c ∨ b = e
def jsL (K : PySem.W.Frag) (R : Addr) : Js LJ where
  K := K
  R := .ref R
  cl := fun _ => 0
  xc := fun _ => 0
  xf := fun _ => ""
  rep := fun j _ A H => repL R j A H
  frame := fun {j F F' A H H'} h _ q => by
    obtain ⟨c, e, h1, h2, h3, h4, h5, h6, h7⟩ := h
    exact ⟨c, e, h1, h2, h3, by rw [q R ((h7 R).mpr (.inl rfl))]; exact h4, by rw [q c ((h7 c).mpr (.inr (.inl rfl)))]; exact h5, by rw [q e ((h7 e).mpr (.inr (.inr rfl)))]; exact h6, h7⟩
  dom := fun {j F A H b} h a => by
    obtain ⟨c, e, h1, h2, h3, h4, h5, h6, h7⟩ := h
    rcases (h7 b).mp a with rfl | rfl | rfl
    · rw [h4]; simp
    · rw [h5]; simp
    · rw [h6]; simp
/-- what a def that draws leaves of the heap -/
structure Out (A : Addr → Prop) (H H' : Hp) : Prop where
  keep : ∀ b o, H b = some o → ¬ A b → H' b = some o
  dm : ∀ b, H' b = none → H b = none
theorem Out.refl (A : Addr → Prop) (H : Hp) : Out A H H := ⟨fun _ _ e _ => e, fun _ e => e⟩
theorem Out.at {A : Addr → Prop} {H H' : Hp} (h : Out A H H') {a : Addr} (ha : A a) (o : HO) : Out A H (upd H' a o) := ⟨fun b u e n => by rw [upd_ne (show b ≠ a from fun z => n (by rw [z]; exact ha))]; exact h.keep b u e n, fun b e => by
  by_cases hb : b = a
  · subst hb; rw [upd_same] at e; cases e
  · rw [upd_ne hb] at e; exact h.dm b e⟩
theorem Out.new {A : Addr → Prop} {H H' : Hp} (h : Out A H H') {a : Addr} (ha : H' a = none) (o : HO) : Out A H (upd H' a o) := ⟨fun b u e n => by rw [upd_ne (ne_of_none (h.keep b u e n) ha)]; exact h.keep b u e n, fun b e => by
  by_cases hb : b = a
  · subst hb; exact h.dm b ha
  · rw [upd_ne hb] at e; exact h.dm b e⟩
theorem Out.post {J : Type} {S : Js J} {F H H' : Hp} {A : Addr → Prop} {j' : J} (h : Out A H H') (fh : Same F H) (fa : ∀ b o, F b = some o → ¬ A b) (jr : S.rep j' F A H') (sm : ∃ o u, H sysModules = some (.frz o u)) (na : ¬ A sysModules) : FPost S F A H F A H' j' :=
  ⟨Same.refl _, fun b o e => h.keep b o (fh b o e) (fa b o e), fa, jr, h.keep, fun b o e => .inl e, fun b e => .inl e, h.dm, let ⟨o, u, e⟩ := sm; ⟨o, u, h.keep _ _ e na⟩⟩

/-! ### _law_lift -/
def rMulW : R2 := rI CMulW fun i j => .int (i * j)
def rAddI : R2 := rI0 fun i j => .int (i + j)
def rMod : R2 := rI (fun _ j => 0 < j) fun i j => .int (i % j)
def rDivW : R2 := rI CDivW fun i j => .int (i / j)
def rPowI : R2 := rI CPow fun i j => .int (i ^ j.toNat)
def rLen1 (K : PySem.W.Frag) : List V → Hp → VK → Prop := fun xs H Q => ∃ x n, xs = [x] ∧ LenV K x H n ∧ Q (.int n) H
def tLiftW (K : PySem.W.Frag) : TS := tWhile (tTest (tOp (rNeD K) (tVar 4) (tLst tNil)))
  (tSeq (tAsg (tBM0 K "list" rPop (tVar 4)) (gName 5)) (tIfS (tTest (tOp (rI0 fun i j => .bl (decide (j < i))) (tVar 5) (tC (.int 0))))
    (tSeq (tDrop (tBM K "list" rAppend (tVar 4) (tCons (tOp rDivW (tVar 5) (tVar 1)) tNil))) (tRet (tOp rMod (tVar 5) (tVar 1)))) tNext))
def tLift1 (K : PySem.W.Frag) : TE := tOp rMod (tOp rAddI (tOp rMod (tOp (rIxL K) (tVar 2) (tOp rMod (tVar 3) (tCB (rLen1 K) (tCons (tVar 2) tNil)))) (tC (.int 4294967291))) (tOp rMulW (tC (.int 2246822519)) (tOp rAddI (tVar 3) (tC (.int 1))))) (tC (.int 4294967291))
def tLift2 : TE := tOp rMod (tOp rMulW (tOp rMod (tOp rMulW (tVar 6) (tVar 6)) (tC (.int 4294967279))) (tC (.int 2654435761))) (tC (.int 4294967291))
def tLift3 : TE := tOp rMod (tOp rPowI (tOp rAddI (tVar 6) (tOp rMulW (tC (.int 374761393)) (tVar 3))) (tC (.int 2))) (tC (.int 4294967231))
def tLift (K : PySem.W.Frag) : TS :=
  tSeq (tAsg (tVar 0) (gUnl K 3 (gCons (gName 2) (gCons (gName 3) (gCons (gName 4) gNil)))))
  (tSeq (tAsg (tOp rAddI (tVar 3) (tC (.int 1))) (gSub (tVar 0) (tC (.int 1)) rSetL))
  (tSeq (tLiftW K)
  (tSeq (tAsg (tLift1 K) (gName 6)) (tSeq (tAsg tLift2 (gName 6)) (tSeq (tAsg tLift3 (gName 6))
  (tRet (tOp rMod (tOp rDivW (tVar 6) (tC (.int 8))) (tVar 1))))))))
theorem pyInts (ns : List Int) : pyL (ns.map D.int) = some (ns.map PyData.int) := by
  induction ns with
  | nil => rfl
  | cons n ns ih => simp only [List.map_cons, pyL, py, ih]
theorem dpInts {K : PySem.W.Frag} {H : Hp} : ∀ (ns : List Int), DpAll K H (ns.map V.int) (ns.map PyData.int)
  | [] => .nil
  | n :: ns => .cons (.int n) (dpInts ns)
theorem shaped_ints (gs : List Int) : SeqAt.shaped (.list (gs.map PyData.int)) = true := by
  have h1 : PyData.canLayAll0 (gs.map PyData.int) = true := by
    induction gs with
    | nil => rfl
    | cons g gs ih => simp only [List.map_cons, PyData.canLayAll0, PyData.canLay0, ih]; rfl
  have h2 : PyData.depthAll (gs.map PyData.int) = 0 := by
    induction gs with
    | nil => rfl
    | cons g gs ih => simp only [List.map_cons, PyData.depthAll, PyData.depth]; rw [ih (by simpa [PyData.canLayAll0, PyData.canLay0] using h1)]; rfl
  unfold SeqAt.shaped
  simp only [PyData.canLay0, PyData.depth, h1, h2]
  decide
theorem eqv_cons (g : Int) (gs : List Int) : PyData.eqv (.list ((g :: gs).map PyData.int)) (.list []) = false := by
  simp only [List.map_cons, PyData.eqv, PyData.eqvAll]
theorem hash_lt (c : Int) (n : Nat) : (0 ≤ hash1 c n ∧ hash1 c n < 4294967291) ∧ ∀ s, (0 ≤ hash2 s ∧ hash2 s < 4294967291) ∧ 0 ≤ hash3 s n := by
  refine ⟨⟨Int.emod_nonneg _ (by decide), Int.emod_lt_of_pos _ (by decide)⟩, fun s => ⟨⟨Int.emod_nonneg _ (by decide), Int.emod_lt_of_pos _ (by decide)⟩, Int.emod_nonneg _ (by decide)⟩⟩
theorem lift_pure {K : PySem.W.Frag} {R : Addr} {N : List Str} (hN : N.length = 7) {vs : List V} {H : Hp} {Q : VK} {E : XK} (h : spFO (jsL K R) 2 liftF vs H Q E) : tLift K { nx := fun _ H' => Q .non H', rt := Q } (L2.start N vs) H := by
  obtain ⟨F, A, j, ds, d, j', fh, fa, jr, sM, rp, hl, hf, q⟩ := h
  unfold liftF at hf
  split at hf
  · rename_i k
    split at hf
    · rename_i hc
      simp only [Bool.and_eq_true, decide_eq_true_eq] at hc
      obtain ⟨⟨c1, c2⟩, c3⟩ := hc
      cases hf
      obtain ⟨c, e, h1, h2, h3, h4, h5, h6, h7⟩ : repL R j A H := jr
      cases rp with
      | cons r1 rp =>
        cases rp with
        | cons r2 rp =>
          cases rp
          cases r1
          cases r2
          have st : L2.start N [.ref R, .int k] = [some (.ref R), some (.int k), none, none, none, none, none] := by
            unfold L2.start; rw [hN]; rfl
          show tLift K _ (L2.start N [.ref R, .int k]) H
          rw [st]
          have aR : A R := (h7 R).mpr (.inl rfl)
          have ac : A c := (h7 c).mpr (.inr (.inl rfl))
          have ae : A e := (h7 e).mpr (.inr (.inr rfl))
          have na : ¬ A sysModules := fun z => by
            obtain ⟨o, u, eo⟩ := sM
            rcases (h7 _).mp z with z | z | z
            · rw [z, h4] at eo; cases eo
            · rw [z, h5] at eo; cases eo
            · rw [z, h6] at eo; cases eo
          have kdiv : CDivW 0 k := ⟨c1, Nat.lt_of_lt_of_le (sg_log c2) (by decide)⟩
          have hnm : j.n < 1000000000 := c3
          refine ⟨_, rfl, R, _, rfl, .of h4, rfl, _, _, rfl, _, _, rfl, _, _, rfl, rfl, ?_⟩
          refine ⟨_, rfl, _, _, rfl, rfl, _, rfl, R, _, 1, 1, rfl, rfl, h4, rfl, ?_⟩
          have o1 := (Out.refl A H).at aR (.lst ([V.ref c, .int (j.n : Nat), .ref e].set 1 (.int ((j.n : Nat) + 1))))
          refine ⟨fun m σ H' => ∃ (gs : List Int) (r5 : Option V), σ = [some (.ref R), some (.int k), some (.ref c), some (.int (j.n : Nat)), some (.ref e), r5, none] ∧ gs.length = m ∧ gs.length ≤ 100 ∧ H' R = some (.lst [.ref c, .int ((j.n : Nat) + 1), .ref e]) ∧ H' c = some (.lst (j.cells.map V.int)) ∧ H' e = some (.lst (gs.map V.int)) ∧ Out A H H' ∧ goR gs.reverse k = goR j.great.reverse k,
            ⟨j.great.length, j.great, none, rfl, rfl, j.hg, upd_same, by rw [upd_ne h1]; exact h5, by rw [upd_ne h2]; exact h6, o1, rfl⟩, ?_⟩
          rintro m σ H' ⟨gs, r5, rfl, rfl, hg, hR, hcc, he, out, hgo⟩
          refine ⟨_, rfl, by decide, fun p hp => ?_⟩
          have ne1 : e ≠ p := ne_of_none he hp
          have ne2 : R ≠ p := ne_of_none hR hp
          have ne3 : c ≠ p := ne_of_none hcc hp
          have he' : upd H' p (.lst []) e = some (.lst (gs.map V.int)) := by rw [upd_ne ne1]; exact he
          have hR' : upd H' p (.lst []) R = _ := (upd_ne ne2).trans hR
          have hc' : upd H' p (.lst []) c = _ := (upd_ne ne3).trans hcc
          refine ⟨.list (gs.map PyData.int), .list [], .lst (.of he') (dpInts gs), .lst (.of upd_same) .nil, ?_, by decide, _, rfl, ?_⟩
          · exact shaped_ints gs
          · rcases List.eq_nil_or_concat gs with rfl | ⟨gs', z, rfl⟩
            · refine iteF ?_
              -- the cells
              have hcl : (j.n : Int) % (j.cells.length : Int) = ((j.n % j.cells.length : Nat) : Int) := by simp
              have hpos : 0 < j.cells.length := List.length_pos_iff.mpr j.hc
              have hlt : j.n % j.cells.length < j.cells.length := Nat.mod_lt _ hpos
              have hat : atI (j.cells.map V.int) ((j.n : Int) % (j.cells.length : Int)) = some (.int (cellAt j.cells j.n)) := by
                have hx : ixN (j.cells.map V.int).length ((j.n : Int) % (j.cells.length : Int)) = some (j.n % j.cells.length) := by
                  unfold ixN
                  rw [hcl, List.length_map, if_pos (Int.natCast_nonneg _), if_pos (by omega), Int.toNat_natCast]
                unfold atI
                rw [hx, Option.bind_some, List.getElem?_map]
                unfold cellAt
                rw [List.getD_eq_getElem?_getD, List.getElem?_eq_getElem hlt]
                rfl
              obtain ⟨⟨b1, b2⟩, hb⟩ := hash_lt (cellAt j.cells j.n) j.n
              obtain ⟨⟨b3, b4⟩, b5⟩ := hb (hash1 (cellAt j.cells j.n) j.n)
              have b6 := (hb (hash2 (hash1 (cellAt j.cells j.n) j.n))).2
              have bm1 : ∀ z : Int, 0 ≤ z % 4294967279 ∧ z % 4294967279 < 4294967279 := fun z => ⟨Int.emod_nonneg _ (by decide), Int.emod_lt_of_pos _ (by decide)⟩
              refine ⟨_, rfl, _, rfl, _, rfl, _, _, rfl, .inl ⟨_, .of hc', rfl⟩, _, _, rfl, rfl, by rw [List.length_map]; omega, c, _, _, .int (cellAt j.cells j.n), rfl, rfl, .of hc', by rw [List.length_map]; exact hat, _, _, rfl, rfl, (show (0:Int) < _ by decide), _, rfl, _, _, rfl, rfl, _, _, rfl, rfl, wide_mul (a := 64) (b := 64) (by omega) (by omega) (by decide) (by decide) (by decide), _, _, rfl, rfl, _, _, rfl, rfl, (show (0:Int) < _ by decide), ?_⟩
              refine ⟨_, rfl, _, rfl, _, _, rfl, rfl, wide_mul (a := 64) (b := 64) (by unfold hash1 at b1 b2; omega) (by unfold hash1 at b1 b2; omega) (by decide) (by decide) (by decide), _, _, rfl, rfl, (show (0:Int) < _ by decide), _, _, rfl, rfl, wide_mul (a := 64) (b := 64) (by have := bm1 (hash1 (cellAt j.cells j.n) j.n * hash1 (cellAt j.cells j.n) j.n); unfold hash1 at this; omega) (by omega) (by decide) (by decide) (by decide), _, _, rfl, rfl, (show (0:Int) < _ by decide), ?_⟩
              refine ⟨_, rfl, _, rfl, _, _, rfl, rfl, wide_mul (a := 64) (b := 64) (by omega) (by omega) (by decide) (by decide) (by decide), _, _, rfl, rfl, _, _, rfl, rfl, ⟨by decide, by decide, ?_⟩, _, _, rfl, rfl, (show (0:Int) < _ by decide), ?_⟩
              · unfold hash2 hash1 at b3 b4; omega
              · refine ⟨_, rfl, _, _, rfl, rfl, ⟨by decide, by decide⟩, _, rfl, _, _, rfl, rfl, c1, ?_⟩
                have hv : j.lift k = (hashV (cellAt j.cells j.n) j.n / 8 % k, ⟨j.cells, j.n + 1, [], j.hc, j.hl, by simp⟩) := by
                  unfold LJ.lift
                  split
                  · rename_i h; rw [← hgo] at h; cases h
                  · rfl
                rw [hv] at q
                refine q F A _ _ ((out.new hp _).post fh fa ⟨c, e, h1, h2, h3, hR', hc', he', h7⟩ sM na) (.int _)
            · have hev : (!PyData.eqv (.list ((gs'.concat z).map PyData.int)) (.list [])) = true := by
                cases gs' with
                | nil => rw [show ([] : List Int).concat z = z :: [] from rfl, eqv_cons]; rfl
                | cons a b => rw [show (a :: b).concat z = a :: b.concat z from rfl, eqv_cons]; rfl
              rw [hev]
              refine iteT ?_
              have o2 := out.new hp (.lst [])
              rw [List.concat_eq_append] at he' hg hgo
              have hdl : ((gs' ++ [z]).map V.int).dropLast = gs'.map V.int := by rw [List.map_append]; simp
              have hlast : ((gs' ++ [z]).map V.int)[((gs' ++ [z]).map V.int).length - 1]? = some (.int z) := by rw [List.map_append]; simp
              refine ⟨fun σ H' => ∃ (gs : List Int) (r5 : Option V), σ = [some (.ref R), some (.int k), some (.ref c), some (.int (j.n : Nat)), some (.ref e), r5, none] ∧ gs.length < (gs'.concat z).length ∧ gs.length ≤ 100 ∧ H' R = some (.lst [.ref c, .int ((j.n : Nat) + 1), .ref e]) ∧ H' c = some (.lst (j.cells.map V.int)) ∧ H' e = some (.lst (gs.map V.int)) ∧ Out A H H' ∧ goR gs.reverse k = goR j.great.reverse k,
                fun σ' H' ⟨gs, r5, a1, a2, a3, a4⟩ => ⟨gs.length, a2, gs, r5, a1, rfl, a3, a4⟩, ?_⟩
              refine ⟨_, rfl, .inl ⟨rfl, _, .of he'⟩, e, _, .int z, rfl, rfl, he', hlast, ?_⟩
              rw [hdl]
              have o3 := o2.at ae (.lst (gs'.map V.int))
              have hR3 := (upd_ne (o := HO.lst (gs'.map V.int)) (Ne.symm h2)).trans hR'
              have hc3 := (upd_ne (o := HO.lst (gs'.map V.int)) h3).trans hc'
              rw [List.reverse_append] at hgo
              have hgo' : goR (z :: gs'.reverse) k = goR j.great.reverse k := hgo
              refine ⟨_, rfl, _, _, rfl, rfl, _, rfl, ?_⟩
              by_cases hz : 0 < z
              · rw [decide_eq_true hz]
                refine iteT ?_
                refine ⟨_, rfl, .inl ⟨rfl, _, .of upd_same⟩, _, rfl, _, rfl, z, k, rfl, rfl, kdiv, e, _, _, rfl, rfl, upd_same, by rw [List.length_map]; exact Nat.lt_of_le_of_lt (Nat.le_trans (by simp at hg; omega) (by decide : 100 ≤ 1000)) (by decide), ?_⟩
                refine ⟨_, rfl, _, rfl, z, k, rfl, rfl, c1, ?_⟩
                rw [show goR (z :: gs'.reverse) k = some (z % k, (z / k) :: gs'.reverse) from if_pos hz] at hgo'
                have hv : (j.lift k).1 = z % k ∧ (j.lift k).2.cells = j.cells ∧ (j.lift k).2.n = j.n + 1 ∧ (j.lift k).2.great = gs' ++ [z / k] := by
                  unfold LJ.lift
                  split
                  · rename_i v gs h
                    rw [← hgo'] at h
                    cases h
                    exact ⟨rfl, rfl, rfl, by simp⟩
                  · rename_i h; rw [← hgo'] at h; cases h
                obtain ⟨v1, v2, v3, v4⟩ := hv
                have o4 := o3.at ae (.lst (gs'.map V.int ++ [.int (z / k)]))
                refine q F A _ _ (o4.post fh fa ⟨c, e, h1, h2, h3, ?_, ?_, ?_, h7⟩ sM na) (by rw [v1]; exact .int _)
                · rw [upd_ne (Ne.symm h2), v3]; exact hR3
                · rw [upd_ne h3, v2]; exact hc3
                · rw [upd_same, v4, List.map_append]; rfl
              · rw [decide_eq_false hz]
                refine iteF ?_
                rw [show goR (z :: gs'.reverse) k = goR gs'.reverse k from if_neg hz] at hgo'
                exact ⟨gs', _, rfl, by simp, by simp at hg; omega, hR3, hc3, upd_same, o3, hgo'⟩
    · cases hf
  · cases hf

/-! ### the source by what is asked of it alone: how often it was drawn from -/
def jsN (K : PySem.W.Frag) (cl xc : Nat → Addr) (xf : Nat → Str) (R : Addr) : Js Nat where
  K := K
  R := .ref R
  cl := cl
  xc := xc
  xf := xf
  rep := fun n _ A H => ∃ j : LJ, j.n = n ∧ repL R j A H
  frame := fun {n F F' A H H'} ⟨j, e, h⟩ s q => ⟨j, e, (jsL K R).frame (F := F) (F' := F') h s q⟩
  dom := fun {n F A H b} ⟨j, e, h⟩ a => (jsL K R).dom (F := F) h a
instance {K : PySem.W.Frag} {cl xc : Nat → Addr} {xf : Nat → Str} {R : Addr} : PureJ (jsN K cl xc xf R) := ⟨fun h => h⟩
/-- an int below k, any -/
def drawF (ds : List D) (n : Nat) (P : D → Nat → Prop) (E : Ex → Nat → Prop) : Prop := ∃ k, ds = [.jar, .int k] ∧ 0 < k ∧ sg k = true ∧ n < NMAX ∧ ∀ v, 0 ≤ v → v < k → P (.int v) (n + 1)
instance : MoF drawF := ⟨fun ⟨k, e, h1, h2, h3, h⟩ q _ => ⟨k, e, h1, h2, h3, fun v a b => q _ _ (h v a b)⟩⟩
theorem draw_spec {K : PySem.W.Frag} {cl xc : Nat → Addr} {xf : Nat → Str} {R : Addr} {vs : List V} {H : Hp} {Q : VK} {E : XK} (h : spF (jsN K cl xc xf R) 2 drawF vs H Q E) : spFO (jsL K R) 2 liftF vs H Q E := by
  obtain ⟨F, A, n, ds, P, Ep, fh, fa, ⟨j, hj, jr⟩, sM, rp, hl, ⟨k, rfl, h1, h2, h3, hp⟩, q, _⟩ := h
  subst hj
  have rp' : RpL (jsL K R) F [.jar, .int k] vs := by
    cases rp with
    | cons r1 rp =>
      cases rp with
      | cons r2 rp =>
        cases rp
        cases r1
        cases r2
        exact .cons .jar (.cons (.int _) .nil)
  refine ⟨F, A, j, _, .int (j.lift k).1, (j.lift k).2, fh, fa, jr, sM, rp', rfl, ?_, fun F' A' H' v p r => ?_⟩
  · show (if _ then _ else _) = _
    rw [if_pos (by simp [h1, h2, h3])]
  · have hv : v = .int (j.lift k).1 := int_of r
    subst hv
    exact q _ _ F' A' H' _ (hp _ (j.lift_rng h1).1 (j.lift_rng h1).2) ⟨p.sub, p.fh, p.fa, ⟨_, j.lift_n k, p.jr⟩, p.keep, p.ff, p.af, p.dm, p.sm⟩ (.int _)
end Mp

/-! MpO: how the random source of k01 to k10, k71 to k78 is opened. -/
namespace Mp
open PySem PySem.Spec L2
open PyProof.Rows hiding St
/-- a list comprehension over ints -/
theorem lcI {K : PySem.W.Frag} {a : Addr} {xs : List Int} {H1 : Hp} {Dd : Addr} {i : Nat} {σ : St} {tt : TT} {te : TE} {Q : Hp → Prop} (f : Int → Int) (t : Int → Bool) (hS : SqL K H1 a (xs.map V.int)) (hD : H1 Dd = none) (hlen : xs.length ≤ 1000)
    (htt : ∀ x H (Q : Bool → Hp → Prop), Q (t x) H → tt ((wipe σ [i]).set i (some (.int x))) H Q) (hte : ∀ x H (Q : VK), Q (.int (f x)) H → te ((wipe σ [i]).set i (some (.int x))) H Q) (hd : Q (upd H1 Dd (.lst (((xs.filter t).map f).map V.int)))) :
    ∃ W : Nat → Nat → Hp → Prop, (∃ m, W 0 m (upd H1 Dd (.lst []))) ∧ ∀ k m H, W k m H →
      ((Itl K a).stop k H ∧ Q H) ∨ ((Itl K a).go k H ∧ ∃ Nx : Hp → Prop, (∀ H', Nx H' → ∃ m', m' < m ∧ W (k + 1) m' H') ∧ ∀ x H', (Itl K a).yld k H x H' → gName i x (wipe σ [i]) H' fun σ2 H2 => wipe σ2 [i] = wipe σ [i] ∧ tt σ2 H2 fun b H3 =>
        if b = true then te σ2 H3 fun y H4 => ∃ acc, H4 Dd = some (.lst acc) ∧ acc.length < sizeLine ∧ Nx (upd H4 Dd (.lst (acc ++ [y]))) else Nx H3) := by
  have uu : ∀ (o o' : HO), upd (upd H1 Dd o) Dd o' = upd H1 Dd o' := fun o o' => by
    funext b
    by_cases hb : b = Dd
    · subst hb; rw [upd_same, upd_same]
    · rw [upd_ne hb, upd_ne hb, upd_ne hb]
  refine lc_it (walk_list (K := K) (a := a) (xs := xs.map V.int)) (fun k H => H = upd H1 Dd (.lst ((((xs.take k).filter t).map f).map V.int))) rfl (fun k H _ e => ?_) (fun k x H H' hk e y => ?_) (fun H e => ?_)
  · rw [e]
    exact (same_new hD).seq hS
  · obtain ⟨rfl, hx⟩ := y
    subst e
    rw [List.getElem?_map, Option.map_eq_some_iff] at hx
    obtain ⟨z, hz, rfl⟩ := hx
    refine ⟨?_, htt z _ _ ?_⟩
    · show ((wipe σ []).set i none |>.set i (some (V.int z)) |>.set i none) = (wipe σ []).set i none
      rw [List.set_set, List.set_set]
    · have htk : xs.take (k + 1) = xs.take k ++ [z] := by
        rw [List.take_add_one, hz]; rfl
      cases ht : t z with
      | true =>
        refine iteT ?_
        refine hte z _ _ ⟨_, upd_same, ?_, ?_⟩
        · rw [List.length_map, List.length_map]
          refine Nat.lt_of_le_of_lt (Nat.le_trans (List.length_filter_le _ _) (Nat.le_trans (by rw [List.length_take]; exact Nat.min_le_right _ _) hlen)) (by decide)
        · rw [uu, htk, List.filter_append, List.map_append, List.map_append]
          simp [ht]
      | false =>
        refine iteF ?_
        rw [htk, List.filter_append]
        simp [ht]
  · rw [List.length_map, List.take_length] at e
    rw [e]; exact hd
def rAbs1 : List V → Hp → VK → Prop := fun xs H Q => ∃ i, xs = [.int i] ∧ Q (.int (if i < 0 then -i else i)) H
def rGe : R2 := rI0 fun i j => .bl (decide (j ≤ i))
def rIntB : List V → Hp → VK → Prop := fun xs H Q => (∃ i, xs = [.int i] ∧ Q (.int i) H) ∨ ∃ k, xs = [.bl k] ∧ Q (.int (if k then 1 else 0)) H
def tOpened (K : PySem.W.Frag) : TS :=
  tSeq (tAsg (tLc (iList K (L2.tSl (rSlL K) (tVar 0) tNoPart (tPart (tC (.int 60))))) (gName 2) tYes (tCB rAbs1 (tCons (tVar 2) tNil)) [2]) (gName 1))
    (tRet (tLst (tCons (tOp rCat (tVar 1) (tOp rRep (tLst (tCons (tC (.int 23)) tNil)) (tCB rIntB (tCons (tOp (rEqD K) (tVar 1) (tLst tNil)) tNil))))
      (tCons (tC (.int 0)) (tCons (tLc (iList K (tVar 1)) (gName 2) (tTest (tOp rGe (tVar 2) (tOp rPowI (tC (.int 10)) (tC (.int 18))))) (tVar 2) [2]) tNil)))))
/-- the source as it is opened -/
def absI (i : Int) : Int := if i < 0 then -i else i
def cells0 (ns : List Int) : List Int := (ns.take 60).map absI
def openJ (ns : List Int) : LJ where
  cells := if cells0 ns = [] then [23] else cells0 ns
  n := 0
  great := (cells0 ns).filter fun c => decide (10 ^ 18 ≤ c)
  hc := by split <;> simp_all
  hl := by
    split
    · decide
    · unfold cells0; rw [List.length_map, List.length_take]; omega
  hg := Nat.le_trans (List.length_filter_le _ _) (by unfold cells0; rw [List.length_map, List.length_take]; omega)
def spOpen (K : PySem.W.Frag) : Sp := fun vs H Q _ => ∃ a ns, vs = [.ref a] ∧ ns.length ≤ 63 ∧ SqL K H a (ns.map V.int) ∧ ∀ (H' : Hp) (R : Addr) (A : Addr → Prop), Same H H' → (∀ b, A b → H b = none) → repL R (openJ ns) A H' → Q (.ref R) H'
theorem opened_pure {K : PySem.W.Frag} {N : List Str} (hN : N.length = 3) {vs : List V} {H : Hp} {Q : VK} {E : XK} (h : spOpen K vs H Q E) : tOpened K { nx := fun _ H' => Q .non H', rt := Q } (L2.start N vs) H := by
  obtain ⟨a, ns, rfl, hl, hS, q⟩ := h
  have st : L2.start N [.ref a] = [some (.ref a), none, none] := by unfold L2.start; rw [hN]; rfl
  rw [st]
  refine ⟨.ref a, rfl, ?_⟩
  refine ⟨60, rfl, a, _, rfl, hS, fun p hp => ?_⟩
  have hcut : cutV (ns.map V.int) none (some 60) = (ns.take 60).map V.int := by
    unfold cutV
    have e1 : HT.sIx (ns.map V.int).length 0 none = 0 := rfl
    have e2 : HT.sIx (ns.map V.int).length (ns.map V.int).length (some 60) = min 60 (ns.map V.int).length := rfl
    rw [e1, e2, List.drop_zero, Nat.sub_zero, List.map_take]
    by_cases h : 60 ≤ (ns.map V.int).length
    · rw [Nat.min_eq_left h]
    · rw [Nat.min_eq_right (by omega), List.take_length, List.take_of_length_le (by omega)]
  rw [hcut]
  have s1 : Same H (upd H p (.lst ((ns.take 60).map V.int))) := same_new hp
  refine ⟨p, rfl, ⟨_, .of upd_same⟩, fun c hc => ?_⟩
  refine lcI (σ := [some (.ref a), none, none]) (i := 2) absI (fun _ => true) (.of upd_same) hc (by rw [List.length_take]; omega) (fun x H Q h => h) (fun x H Q h => ⟨_, rfl, x, rfl, h⟩) ?_
  have hf : ((ns.take 60).filter fun _ => true) = ns.take 60 := List.filter_eq_self.mpr fun _ _ => rfl
  rw [hf]
  show tRet (tLst (tCons (tOp rCat (tVar 1) (tOp rRep (tLst (tCons (tC (.int 23)) tNil)) (tCB rIntB (tCons (tOp (rEqD K) (tVar 1) (tLst tNil)) tNil))))
      (tCons (tC (.int 0)) (tCons (tLc (iList K (tVar 1)) (gName 2) (tTest (tOp rGe (tVar 2) (tOp rPowI (tC (.int 10)) (tC (.int 18))))) (tVar 2) [2]) tNil)))) { nx := fun x H' => Q V.non H', rt := Q } [some (.ref a), some (.ref c), none] (upd (upd H p (.lst ((ns.take 60).map V.int))) c (.lst ((cells0 ns).map V.int)))
  have lc : (cells0 ns).length ≤ 60 := by unfold cells0; rw [List.length_map, List.length_take]; omega
  have s2 := s1.trans (same_new (o := .lst ((cells0 ns).map V.int)) hc)
  have hcn : H c = none := s1.free hc
  generalize hH2 : upd (upd H p (.lst ((ns.take 60).map V.int))) c (.lst ((cells0 ns).map V.int)) = H2 at *
  have hc2 : H2 c = some (.lst ((cells0 ns).map V.int)) := by rw [← hH2]; exact upd_same
  clear hH2 hc
  refine ⟨_, rfl, by decide, fun p1 n1 => ?_⟩
  have s3 := s2.trans (same_new (o := .lst [.int 23]) n1)
  have hc3 : upd H2 p1 (.lst [.int 23]) c = _ := (upd_ne (ne_of_none hc2 n1)).trans hc2
  refine ⟨_, rfl, by decide, fun p2 n2 => ?_⟩
  have hc4 : upd (upd H2 p1 (.lst [.int 23])) p2 (.lst []) c = _ := (upd_ne (ne_of_none hc3 n2)).trans hc3
  have h14 : upd (upd H2 p1 (.lst [.int 23])) p2 (.lst []) p1 = some (.lst [.int 23]) := (upd_ne (ne_of_none upd_same n2)).trans upd_same
  have s4 := s3.trans (same_new (o := .lst []) n2)
  generalize hH4 : upd (upd H2 p1 (.lst [.int 23])) p2 (.lst []) = H4 at *
  have hp2 : H4 p2 = some (.lst []) := by rw [← hH4]; exact upd_same
  clear hH4 n1 n2 hc3 s3
  have hev : PyData.eqv (.list ((cells0 ns).map PyData.int)) (.list []) = decide (cells0 ns = []) := by
    cases h : cells0 ns with
    | nil => rfl
    | cons x r => rw [eqv_cons]; simp
  refine ⟨.list ((cells0 ns).map PyData.int), .list [], .lst (.of hc4) (dpInts _), .lst (.of hp2) .nil, shaped_ints _, by decide, .inr ⟨_, rfl, ?_⟩⟩
  rw [hev]
  refine ⟨p1, _, _, rfl, rfl, h14, ?_, ?_, ?_, fun p3 n3 => ?_⟩
  · split <;> decide
  · split <;> decide
  · split <;> decide
  have s5 := s4.trans (same_new (o := HO.lst (List.replicate (if decide (cells0 ns = []) = true then (1 : Int) else 0).toNat [V.int 23]).flatten) n3)
  have hc5 : upd H4 p3 (.lst (List.replicate (if decide (cells0 ns = []) = true then (1 : Int) else 0).toNat [V.int 23]).flatten) c = _ := (upd_ne (ne_of_none hc4 n3)).trans hc4
  refine ⟨c, p3, _, _, rfl, rfl, hc5, upd_same, ?_, fun p4 n4 => ?_⟩
  · rw [List.length_map]
    have : (List.replicate (if decide (cells0 ns = []) = true then (1 : Int) else 0).toNat [V.int 23]).flatten.length ≤ 1 := by split <;> decide
    exact Nat.le_trans (show _ ≤ 1000 by omega) (by decide)
  have hcells : (cells0 ns).map V.int ++ (List.replicate (if decide (cells0 ns = []) = true then (1 : Int) else 0).toNat [V.int 23]).flatten = (openJ ns).cells.map V.int := by
    unfold openJ
    by_cases h : cells0 ns = []
    · simp [h]
    · simp [h]
  rw [hcells]
  have n40 := s5.free n4
  have s6 := s5.trans (same_new (o := .lst ((openJ ns).cells.map V.int)) n4)
  generalize hH5 : upd H4 p3 (.lst (List.replicate (if decide (cells0 ns = []) = true then (1 : Int) else 0).toNat [V.int 23]).flatten) = H5 at *
  have hc6 : upd H5 p4 (.lst ((openJ ns).cells.map V.int)) c = _ := (upd_ne (ne_of_none hc5 n4)).trans hc5
  have h46 : upd H5 p4 (.lst ((openJ ns).cells.map V.int)) p4 = some (.lst ((openJ ns).cells.map V.int)) := upd_same
  generalize hH6 : upd H5 p4 (.lst ((openJ ns).cells.map V.int)) = H6 at *
  clear hH6 hH5
  refine ⟨_, rfl, c, rfl, ⟨_, .of hc6⟩, fun e ne => ?_⟩
  refine lcI (σ := [some (.ref a), some (.ref c), none]) (i := 2) id (fun x => decide (10 ^ 18 ≤ x)) (.of hc6) ne (by omega) (fun x H Q h => ⟨_, rfl, _, _, rfl, rfl, ⟨by decide, by decide, by decide⟩, _, _, rfl, rfl, _, rfl, h⟩) (fun x H Q h => ⟨_, rfl, h⟩) ?_
  rw [List.map_id]
  refine ⟨(show 3 ≤ sizeLine by decide), fun R nR => ?_⟩
  have ne0 := s6.free ne
  have s7 := s6.trans (same_new (o := .lst (((cells0 ns).filter fun x => decide (10 ^ 18 ≤ x)).map V.int)) ne)
  have nR0 := s7.free nR
  have r4 : p4 ≠ R := ne_of_none ((upd_ne (ne_of_none h46 ne)).trans h46) nR
  have re : e ≠ R := ne_of_none upd_same nR
  refine q _ R (fun b => b = R ∨ b = p4 ∨ b = e) (s7.trans (same_new nR)) (fun b hb => ?_) ⟨p4, e, r4, re, ne_of_none h46 ne, upd_same, ?_, ?_, fun b => Iff.rfl⟩
  · rcases hb with rfl | rfl | rfl
    · exact nR0
    · exact n40
    · exact ne0
  · rw [upd_ne r4, upd_ne (ne_of_none h46 ne)]; exact h46
  · rw [upd_ne re, upd_same]; rfl
end Mp

/-! NL: a law that opens its source first. -/
namespace Mp
open PySem PySem.Spec L2
open PyProof.Rows hiding St
def blkB (N : List Str) (sc scope : Scope) (own : List (Str × Nat)) : Bool :=
  decide (scope.kind = .function) && decide (∀ y ∈ scope.names, scope.names.lookup y.1 = some y.2) && decide (∀ p ∈ own, N[p.2]? = some p.1) &&
    decide (∀ y ∈ scope.names, y.2 = .free → sc.names.lookup y.1 = some .cell ∨ sc.names.lookup y.1 = some .free) && decide (∀ y ∈ scope.names, y.2 = .local ∨ y.2 = .cell → y.1 ∈ own.map (·.1) ∨ y.1 ∉ N)
theorem blk_of {N' : List Str} {sc' scope : Scope} {own : List (Str × Nat)} (N : List Str) (sc : Scope) (hN : N' = N) (hs : sc' = sc) (h : blkB N sc scope own = true) : BlkOk N' sc' scope own := by
  subst hN hs
  unfold blkB at h
  simp only [Bool.and_eq_true, decide_eq_true_eq] at h
  obtain ⟨⟨⟨⟨h1, h2⟩, h3⟩, h4⟩, h5⟩ := h
  exact ⟨h1, h2, h3, h4, h5⟩
def m0 (k : Nat) : Sd := none :: some .jar :: List.replicate (k - 2) none
/-- the promise of a def that opens a source -/
def spOpenG {J : Type} (Sf : Addr → Js J) (Good : J → Prop) (K : PySem.W.Frag) : Sp := fun vs H Q _ => ∃ (a : Addr) (ns : List Int), vs = [.ref a] ∧ ns.length ≤ 63 ∧ SqL K H a (ns.map V.int) ∧ ∀ (H' : Hp) (R : Addr) (A : Addr → Prop) (j : J), Same H H' → (∀ b, A b → H b = none) → Good j → (Sf R).rep j (fun _ => none) A H' → Q (.ref R) H'
theorem law_pureG {J : Type} {Sf : Addr → Js J} {Good : J → Prop} {K : PySem.W.Frag} {N : List Str} (hR : ∀ R, (Sf R).R = .ref R) (hN : 2 ≤ N.length) {M : Nat → Bool} (hM : ∀ i, i < 2 → M i = false) {f : Sv J} (hlaw : ∀ j, Good j → f (m0 N.length) j (fun l _ _ => l = .ret (.bl true)) xNo) {vs : List V} {H : Hp} {Q : VK} {E : XK} (h : spLaw K vs H Q E) :
    tSeq (tAsg (tCall (spOpenG Sf Good K) [] E0 (tCons (tVar 0) tNil)) (gName 1)) (fun D σ H => ∃ RB : Addr × Bs, rdS (Sf RB.1) RB.2 M W0 f D σ H) { nx := fun _ H' => Q .non H', rt := Q } (L2.start N vs) H := by
  obtain ⟨a, ns, rfl, hl, hb, hS, sM, q⟩ := h
  have st : L2.start N [.ref a] = some (.ref a) :: none :: List.replicate (N.length - 2) none := by
    unfold L2.start
    obtain ⟨k, hk⟩ : ∃ k, N.length = k + 2 := ⟨N.length - 2, by omega⟩
    rw [hk]
    rfl
  rw [st]
  refine ⟨_, rfl, a, ns, rfl, hl, hS, fun H' R A j sm fr gd rp => ?_⟩
  have hf := hlaw j gd
  refine ⟨(R, ⟨fun _ => none, H', A⟩), ⟨fun _ => none, fun _ => none, A⟩, m0 N.length, j, _, _, ⟨⟨fun _ _ e => e, fun _ _ e => (nomatch e), fun _ _ e => (nomatch e), rp, fun _ _ e => e, fun _ _ e => (nomatch e), fun _ e => .inl e, fun _ _ e _ => e, fun _ e => e, let ⟨o, u, e⟩ := sM; ⟨o, u, sm _ _ e⟩⟩, ?_⟩, hf, fun fl m' j' hfl => ?_, XOut.no⟩
  · have lenE : ((some (V.ref a) :: none :: List.replicate (N.length - 2) none : St).set 1 (some (.ref R))).length = (m0 N.length).length := by simp [m0]
    have only : ∀ i d, (m0 N.length)[i]? = some (some d) → i = 1 ∧ d = .jar := fun i d e => by
      unfold m0 at e
      match i, e with
      | 0, e => simp at e
      | 1, e => simp at e; exact ⟨rfl, e.symm⟩
      | i + 2, e =>
        simp only [List.getElem?_cons_succ, List.getElem?_replicate] at e
        split at e <;> cases e
    refine ⟨lenE, fun i d e _ => ?_, fun i d e m => ?_, fun i k b d d' e _ m _ _ _ => ?_⟩
    · obtain ⟨rfl, rfl⟩ := only i d e
      exact ⟨.ref R, rfl, by rw [← hR R]; exact .jar⟩
    · obtain ⟨rfl, rfl⟩ := only i d e
      rw [hM 1 (by decide)] at m; cases m
    · obtain ⟨rfl, rfl⟩ := only i d e
      rw [hM 1 (by decide)] at m; cases m
  · subst hfl
    intro g' H2 v ok rv
    rw [bl_of rv]
    exact q H2
/-- a law's start: the source drawn from a few times at most -/
def Few (n : Nat) : Prop := n ≤ 1000000
theorem open_lift {K : PySem.W.Frag} {cl xc : Nat → Addr} {xf : Nat → Str} {vs : List V} {H : Hp} {Q : VK} {E : XK} (h : spOpenG (jsN K cl xc xf) Few K vs H Q E) : spOpen K vs H Q E := by
  obtain ⟨a, ns, e, l, s, q⟩ := h
  exact ⟨a, ns, e, l, s, fun H' R A sm fr rp => q H' R A 0 sm fr (Nat.zero_le _) ⟨_, rfl, rp⟩⟩
end Mp

/-! MpD: the random source of the laws k37 to k47. -/
namespace Mp
open PySem PySem.Spec L2
open PyProof.Rows hiding St
structure DJ where
  great : List Int
  small : Int
  n : Nat
  hg : great.length ≤ 100
  h0 : 0 ≤ small
  h1 : small < 1000000000039
/-- without the zeros at its end -/
def strip : List Int → List Int
  | [] => []
  | x :: r => match strip r with
    | [] => if x = 0 then [] else [x]
    | y :: s => x :: y :: s
theorem strip_len : ∀ (l : List Int), (strip l).length ≤ l.length
  | [] => Nat.le_refl _
  | x :: r => by
    have := strip_len r
    unfold strip
    split
    · split <;> simp
    · rename_i h; rw [h] at this; simp at this ⊢; omega
def rnd1 (s : Int) (n : Nat) : Int := (s * 92821 + ((n : Int) + 1) * 7919 + 17) % 1000000000039
theorem rnd1_rng (s : Int) (n : Nat) : 0 ≤ rnd1 s n ∧ rnd1 s n < 1000000000039 := ⟨Int.emod_nonneg _ (by decide), Int.emod_lt_of_pos _ (by decide)⟩
def DJ.roll (j : DJ) (k : Int) : Int × DJ := match h : (strip j.great).getLast? with
  | some z => (z % k, ⟨(strip j.great).dropLast ++ [z / k], j.small, j.n, by
      have := strip_len j.great; have := j.hg
      have h2 : (strip j.great) ≠ [] := fun q => by rw [q] at h; cases h
      have := List.length_pos_iff.mpr h2
      simp; omega, j.h0, j.h1⟩)
  | none => ((rnd1 j.small j.n * rnd1 j.small j.n + ((j.n : Int) + 1)) % 999999999989 / 5 % k, ⟨[], rnd1 j.small j.n, j.n + 1, by simp, (rnd1_rng _ _).1, (rnd1_rng _ _).2⟩)
def rollF : FvO DJ := fun ds j => match ds with
  | [.jar, .int k] => if decide (0 < k) && sg k && decide (j.n < NMAX) then some (.int (j.roll k).1, (j.roll k).2) else none
  | _ => none
def repD (R : Addr) (j : DJ) (A : Addr → Prop) (H : Hp) : Prop := ∃ e, e ≠ R ∧ H R = some (.lst [.ref e, .int j.small, .int (j.n : Nat)]) ∧ H e = some (.lst (j.great.map V.int)) ∧ ∀ b, A b ↔ b = R ∨ b = e
def jsD (K : PySem.W.Frag) (R : Addr) : Js DJ where
  K := K
  R := .ref R
  cl := fun _ => 0
  xc := fun _ => 0
  xf := fun _ => ""
  rep := fun j _ A H => repD R j A H
  frame := fun {j F F' A H H'} h _ q => by
    obtain ⟨e, h1, h4, h6, h7⟩ := h
    exact ⟨e, h1, by rw [q R ((h7 R).mpr (.inl rfl))]; exact h4, by rw [q e ((h7 e).mpr (.inr rfl))]; exact h6, h7⟩
  dom := fun {j F A H b} h a => by
    obtain ⟨e, h1, h4, h6, h7⟩ := h
    rcases (h7 b).mp a with rfl | rfl
    · rw [h4]; simp
    · rw [h6]; simp
def tNeg1 : TE := tUn (rU fun i => .int (-i)) (tC (.int 1))
def tD0 (K : PySem.W.Frag) : TE := tOp (rIxL K) (tVar 0) (tC (.int 0))
def tRoll (K : PySem.W.Frag) : TS :=
  tSeq (tWhile (tAnd (tTest (tOp (rNeD K) (tD0 K) (tLst tNil))) (tTest (tOp rEq (tOp (rIxL K) (tD0 K) tNeg1) (tC (.int 0)))))
    (tAsg (L2.tSl (rSlL K) (tD0 K) tNoPart (tPart tNeg1)) (gSub (tVar 0) (tC (.int 0)) rSetL)))
  (tSeq (tIfS (tTest (tOp (rNeD K) (tD0 K) (tLst tNil)))
    (tSeq (tAsg (tOp (rIxL K) (tD0 K) tNeg1) (gName 2))
      (tSeq (tAsg (tOp rCat (L2.tSl (rSlL K) (tD0 K) tNoPart (tPart tNeg1)) (tLst (tCons (tOp rDivW (tVar 2) (tVar 1)) tNil))) (gSub (tVar 0) (tC (.int 0)) rSetL))
        (tRet (tOp rMod (tVar 2) (tVar 1))))) tNext)
  (tSeq (tAsg (tOp rAddI (tOp (rIxL K) (tVar 0) (tC (.int 2))) (tC (.int 1))) (gSub (tVar 0) (tC (.int 2)) rSetL))
  (tSeq (tAsg (tOp rMod (tOp rAddI (tOp rAddI (tOp rMulW (tOp (rIxL K) (tVar 0) (tC (.int 1))) (tC (.int 92821))) (tOp rMulW (tOp (rIxL K) (tVar 0) (tC (.int 2))) (tC (.int 7919)))) (tC (.int 17))) (tC (.int 1000000000039))) (gSub (tVar 0) (tC (.int 1)) rSetL))
  (tRet (tOp rMod (tOp rDivW (tOp rMod (tOp rAddI (tOp rMulW (tOp (rIxL K) (tVar 0) (tC (.int 1))) (tOp (rIxL K) (tVar 0) (tC (.int 1)))) (tOp (rIxL K) (tVar 0) (tC (.int 2)))) (tC (.int 999999999989))) (tC (.int 5))) (tVar 1))))))
def jsND (K : PySem.W.Frag) (cl xc : Nat → Addr) (xf : Nat → Str) (R : Addr) : Js Nat where
  K := K
  R := .ref R
  cl := cl
  xc := xc
  xf := xf
  rep := fun n _ A H => ∃ j : DJ, j.n ≤ n ∧ repD R j A H
  frame := fun {n F F' A H H'} ⟨j, e, h⟩ s q => ⟨j, e, (jsD K R).frame (F := F) (F' := F') h s q⟩
  dom := fun {n F A H b} ⟨j, e, h⟩ a => (jsD K R).dom (F := F) h a
instance {K : PySem.W.Frag} {cl xc : Nat → Addr} {xf : Nat → Str} {R : Addr} : PureJ (jsND K cl xc xf R) := ⟨fun h => h⟩
end Mp

/-! NQ: how the source of k37 to k47 is opened. -/
namespace Mp
open PySem PySem.Spec L2
open PyProof.Rows hiding St
def spOpenD (c : Nat) (K : PySem.W.Frag) : Sp := spOpenG (jsD K) (fun j => j.n = c) K
def rLtI : R2 := rI0 fun i j => .bl (decide (i < j))
def tAbs2 : TE := tCB rAbs1 (tCons (tVar 2) tNil)
def tTen18 : TE := tOp rPowI (tC (.int 10)) (tC (.int 18))
def tCut61 (K : PySem.W.Frag) : TE := L2.tSl (rSlL K) (tVar 0) tNoPart (tPart (tC (.int 61)))
def tOpenD (c : Int) (K : PySem.W.Frag) : TS :=
  tSeq (tAsg (tC (.int c)) (gName 1))
  (tSeq (tFor (iList K (tCut61 K)) (gName 2) (tIfS (tTest (tOp rLtI tAbs2 tTen18))
      (tAsg (tOp rMod (tOp rAddI (tOp rAddI (tOp rMulW (tVar 1) (tC (.int 48611))) tAbs2) (tOp rMulW (tC (.int 3)) (tCB rIntB (tCons (tOp rLtI (tVar 2) (tC (.int 0))) tNil)))) (tC (.int 1000000000039))) (gName 1)) tNext))
  (tRet (tLst (tCons (tLc (iList K (tCut61 K)) (gName 2) (tTest (tOp rGe tAbs2 tTen18)) tAbs2 [2]) (tCons (tVar 1) (tCons (tC (.int c)) tNil))))))
end Mp

/-! NM: what a closure brings about, step by step. -/
namespace Mp
open PySem L2
variable {J : Type}
/-- kept from simp: what a thing of this type hangs on is not rewritten -/
inductive Tg {α β : Sort _} (a : α) (b : β) : Type | mk
/-- a call, a loop: what follows is not looked at -/
def WF (φ : Fv J) (ds : List D) (j : J) (P : D → J → Prop) (E : Ex → J → Prop) (_t : Tg P E := .mk) : Prop := φ ds j P E
def WL (γ : Gv) (fb : Sv J) (ds : List D) (m : Sd) (j : J) (P : Fl → Sd → J → Prop) (E : XP J) (_t : Tg P E := .mk) : Prop := forW γ fb ds m j P E
def WC (wm : Sd) (γ : Gv) (ft : Tv J) (fe : Ev J) (ds : List D) (j : J) (P : List D → J → Prop) (_t : Tg P True := .mk) : Prop := compW wm γ ft fe ds [] j P
def WH (tc : Tv J) (fb : Sv J) (m : Sd) (j : J) (P : Fl → Sd → J → Prop) (E : XP J) (_t : Tg P E := .mk) : Prop := sWhile tc fb m j P E
section
variable {f fa fb fc fe fk : Ev J} {fr : Av J} {t ta tb : Tv J} {s s1 s2 : Sv J} {m : Sd} {j : J} {P : D → J → Prop} {PT : Bool → J → Prop} {PA : List D → J → Prop} {PO : Option Int → J → Prop} {PS : Fl → Sd → J → Prop} {E : XP J} {i k l : Nat} {d : D} {fl fh : Pv J} {fi : Iv J} {γ : Gv} {φ ψ : D → D → Option D} {χ : D → Option D}
@[simp ↓] theorem a_var : eVar i m j P E = ∃ d, m[i]? = some (some d) ∧ P d j := rfl
@[simp ↓] theorem a_c : eC d m j P E = P d j := rfl
@[simp ↓] theorem a_op : eOp φ fa fb m j P E = fa m j (fun x j1 => fb m j1 (fun y j2 => ∃ z, φ x y = some z ∧ P z j2) E) E := rfl
@[simp ↓] theorem a_mt : eMt φ fa fb m j P E = fa m j (fun x j1 => isSq x ∧ fb m j1 (fun y j2 => ∃ z, φ x y = some z ∧ P z j2) E) E := rfl
@[simp ↓] theorem a_un : eUn χ fa m j P E = fa m j (fun x j1 => ∃ z, χ x = some z ∧ P z j1) E := rfl
@[simp ↓] theorem a_nl : aNil m j PA E = PA [] j := rfl
@[simp ↓] theorem a_cs : aCons fa fr m j PA E = fa m j (fun x j1 => fr m j1 (fun xs j2 => PA (x :: xs) j2) E) E := rfl
@[simp ↓] theorem a_tup : eTup fr m j P E = fr m j (fun xs j1 => xs.length ≤ LINE ∧ P (.tup xs) j1) E := rfl
@[simp ↓] theorem a_lst : eLst fr m j P E = fr m j (fun xs j1 => xs.length ≤ LINE ∧ P (.lst xs) j1) E := rfl
@[simp ↓] theorem a_b {χ : List D → Option D} : eB χ fr m j P E = fr m j (fun xs j1 => ∃ z, χ xs = some z ∧ P z j1) E := rfl
@[simp ↓] theorem a_call {φ : Fv J} : eCall φ fr m j P E = fr m j (fun xs j1 => WF φ xs j1 P (fun e j' => E e m j')) E := rfl
@[simp ↓] theorem a_callM {φ : Fv J} : eCallM φ fr m j P E = fr m j (fun xs j1 => WF φ xs j1 P (fun _ _ => False)) E := rfl
@[simp ↓] theorem a_pn : pNone m j PO E = PO none j := rfl
@[simp ↓] theorem a_ps : pSome f m j PO E = f m j (fun d j1 => ∃ i, d = .int i ∧ PO (some i) j1) E := rfl
@[simp ↓] theorem a_sl {φ : D → Option Int → Option Int → Option D} : eSl φ fa fl fh m j P E = fa m j (fun x j1 => fl m j1 (fun l j2 => fh m j2 (fun u j3 => ∃ z, φ x l u = some z ∧ P z j3) E) E) E := rfl
@[simp ↓] theorem a_if : eIf t fa fb m j P E = t m j (fun b j1 => if b = true then fa m j1 P E else fb m j1 P E) E := rfl
@[simp ↓] theorem a_to : tOf fa m j PT E = fa m j (fun x j1 => ∃ b, truD x = some b ∧ PT b j1) E := rfl
@[simp ↓] theorem a_tb : tBl fa m j PT E = fa m j (fun x j1 => ∃ b, x = .bl b ∧ PT b j1) E := rfl
@[simp ↓] theorem a_ta : tAndD ta tb m j PT E = ta m j (fun b j1 => if b = true then tb m j1 PT E else PT false j1) E := rfl
@[simp ↓] theorem a_tor : tOrD ta tb m j PT E = ta m j (fun b j1 => if b = true then PT true j1 else tb m j1 PT E) E := rfl
@[simp ↓] theorem a_tn : tNotD ta m j PT E = ta m j (fun b j1 => PT (!b) j1) E := rfl
@[simp ↓] theorem a_ty : tYesD m j PT E = PT true j := rfl
@[simp ↓] theorem a_ch : eChain φ ψ fa fb fc m j P E = fa m j (fun x j1 => fb m j1 (fun y j2 => ∃ b, φ x y = some (.bl b) ∧ if b = true then fc m j2 (fun z j3 => ∃ d, ψ y z = some d ∧ P d j3) E else P (.bl false) j2) E) E := rfl
@[simp ↓] theorem a_and : eAnd fa fb m j P E = fa m j (fun x j1 => ∃ b, truD x = some b ∧ if b = true then fb m j1 P E else P x j1) E := rfl
@[simp ↓] theorem a_or : eOr fa fb m j P E = fa m j (fun x j1 => ∃ b, truD x = some b ∧ if b = true then P x j1 else fb m j1 P E) E := rfl
@[simp ↓] theorem a_not : eNot fa m j P E = fa m j (fun x j1 => ∃ b, truD x = some b ∧ P (.bl (!b)) j1) E := rfl
@[simp ↓] theorem a_iseq : iSeq f m j PA E = f m j (fun d j1 => ∃ xs, seqL d = some xs ∧ PA xs j1) E := rfl
@[simp ↓] theorem a_ir1 : iRng1 f m j PA E = f m j (fun d j1 => ∃ n, d = .int n ∧ -LIM ≤ n ∧ n ≤ LIM ∧ PA (rngD 0 n.toNat) j1) E := rfl
@[simp ↓] theorem a_ir2 : iRng2 fa fb m j PA E = fa m j (fun d j1 => fb m j1 (fun d2 j2 => ∃ a b, d = .int a ∧ d2 = .int b ∧ -LIM ≤ a ∧ a ≤ LIM ∧ -LIM ≤ b ∧ b ≤ LIM ∧ PA (rngD a (b - a).toNat) j2) E) E := rfl
@[simp ↓] theorem a_ien : iEnm f m j PA E = f m j (fun d j1 => ∃ xs, d = .lst xs ∧ PA (enumD xs) j1) E := rfl
@[simp ↓] theorem a_izp : iZip fa fb m j PA E = fa m j (fun x j1 => fb m j1 (fun y j2 => ∃ zs, zipO x y = some zs ∧ PA zs j2) E) E := rfl
@[simp ↓] theorem a_lrg : eLrg fi m j P E = fi m j (fun ds j1 => ds.length ≤ LINE ∧ P (.lst ds) j1) E := rfl
@[simp ↓] theorem a_trg : eTrg fi m j P E = fi m j (fun ds j1 => ds.length ≤ LINE ∧ P (.tup ds) j1) E := rfl
@[simp ↓] theorem a_comp {vs : List Nat} : eComp vs fi γ t fe m j P E = fi m j (fun ds j1 => ds.length ≤ LINE ∧ WC (wipeD m vs) γ t fe ds j1 (fun ys j2 => P (.lst ys) j2)) E := rfl
@[simp ↓] theorem a_snil : sNil m j PS E = PS .next m j := rfl
@[simp ↓] theorem a_sseq : sSeq s1 s2 m j PS E = s1 m j (thenS s2 PS E) E := rfl
@[simp ↓] theorem a_th_n : thenS s2 PS E .next m j = s2 m j PS E := rfl
@[simp ↓] theorem a_th_b : thenS s2 PS E .brk m j = PS .brk m j := rfl
@[simp ↓] theorem a_th_c : thenS s2 PS E .cnt m j = PS .cnt m j := rfl
@[simp ↓] theorem a_th_r : thenS s2 PS E (.ret d) m j = PS (.ret d) m j := rfl
@[simp ↓] theorem a_sexp : sExpr f m j PS E = f m j (fun _ j1 => PS .next m j1) E := rfl
@[simp ↓] theorem a_sbrk : sBrk m j PS E = PS .brk m j := rfl
@[simp ↓] theorem a_scnt : sCnt m j PS E = PS .cnt m j := rfl
@[simp ↓] theorem a_snev : sNever m j PS E = False := rfl
@[simp ↓] theorem a_sret : sRet f m j PS E = f m j (fun d j1 => PS (.ret d) m j1) E := rfl
@[simp ↓] theorem a_srN : sRetN m j PS E = PS (.ret .non) m j := rfl
@[simp ↓] theorem a_sif : sIf t s1 s2 m j PS E = t m j (fun b j1 => if b = true then s1 m j1 PS E else s2 m j1 PS E) E := rfl
@[simp ↓] theorem a_sset : sSet i f m j PS E = f m j (fun d j1 => PS .next (m.set i (some d)) j1) E := rfl
@[simp ↓] theorem a_sasg : sAsg γ f m j PS E = f m j (fun d j1 => ∃ m1, γ d m = some m1 ∧ PS .next m1 j1) E := rfl
@[simp ↓] theorem a_saug : sAug φ i f m j PS E = ∃ x, m[i]? = some (some x) ∧ f m j (fun y j1 => ∃ z, φ x y = some z ∧ PS .next (m.set i (some z)) j1) E := rfl
@[simp ↓] theorem a_sfor : sFor fi γ s m j PS E = fi m j (fun ds j1 => WL γ s ds m j1 PS E) E := rfl
@[simp ↓] theorem a_swh : sWhile t s m j PS E = WH t s m j PS E := rfl
@[simp ↓] theorem a_spr2 : sPr2 i k fa fb m j PS E = fa m j (fun x j1 => fb m j1 (fun y j2 => PS .next ((m.set i (some x)).set k (some y)) j2) E) E := rfl
@[simp ↓] theorem a_spr3 : sPr3 i k l fa fb fc m j PS E = fa m j (fun x j1 => fb m j1 (fun y j2 => fc m j2 (fun z j3 => PS .next (((m.set i (some x)).set k (some y)).set l (some z)) j3) E) E) E := rfl
@[simp ↓] theorem a_sapp : sApp i f m j PS E = ∃ xs, m[i]? = some (some (.lst xs)) ∧ f m j (fun d j1 => xs.length < LINE ∧ PS .next (m.set i (some (.lst (xs ++ [d])))) j1) E := rfl
@[simp ↓] theorem a_sext : sExt i f m j PS E = ∃ xs, m[i]? = some (some (.lst xs)) ∧ f m j (fun d j1 => ∃ ys, d = .lst ys ∧ xs.length + ys.length ≤ LINE ∧ PS .next (m.set i (some (.lst (xs ++ ys)))) j1) E := rfl
@[simp ↓] theorem a_ssix : sSetIx i fk fe m j PS E = ∃ xs, m[i]? = some (some (.lst xs)) ∧ fe m j (fun d j1 => fk m j1 (fun kk j2 => ∃ k n, kk = .int k ∧ ixN xs.length k = some n ∧ PS .next (m.set i (some (.lst (xs.set n d)))) j2) E) E := rfl
@[simp ↓] theorem a_sapo : sAppPop i k f m j PS E = ∃ xs ys, m[i]? = some (some (.lst xs)) ∧ m[k]? = some (some (.lst ys)) ∧ i ≠ k ∧ f m j (fun d j1 => ∃ n y, d = .int n ∧ 0 ≤ n ∧ n < (ys.length : Int) ∧ xs.length < LINE ∧ ys.length ≤ LINE ∧ ys[n.toNat]? = some y ∧
    PS .next ((m.set k (some (.lst (ys.eraseIdx n.toNat)))).set i (some (.lst (xs ++ [y])))) j1) E := rfl
@[simp ↓] theorem a_spop : sPopTo i γ m j PS E = ∃ xs y m1, m[i]? = some (some (.lst xs)) ∧ xs.getLast? = some y ∧ γ y (m.set i (some (.lst xs.dropLast))) = some m1 ∧ PS .next m1 j := rfl
@[simp ↓] theorem a_spopa : sPopAt i f γ m j PS E = ∃ ys, m[i]? = some (some (.lst ys)) ∧ f m j (fun d j1 => ∃ n y m1, d = .int n ∧ 0 ≤ n ∧ n < (ys.length : Int) ∧ ys.length ≤ LINE ∧ ys[n.toNat]? = some y ∧ γ y (m.set i (some (.lst (ys.eraseIdx n.toNat)))) = some m1 ∧ PS .next m1 j1) E := rfl
theorem a_run {k n : Nat} {ds : List D} {E : Ex → J → Prop} (hl : ds.length = n) (h : s (startD k ds) j (endF P) (fun e _ j' => E e j')) : WF (runF k n s) ds j P E := ⟨hl, h⟩
@[simp ↓] theorem a_ef_r : endF P (.ret d) m j = P d j := rfl
@[simp ↓] theorem a_ef_n : endF P .next m j = P .non j := rfl
variable {N : Sd → J → Prop}
@[simp ↓] theorem a_tu_n : turnS N PS .next m j = N m j := rfl
@[simp ↓] theorem a_tu_c : turnS N PS .cnt m j = N m j := rfl
@[simp ↓] theorem a_tu_b : turnS N PS .brk m j = PS .next m j := rfl
@[simp ↓] theorem a_tu_r : turnS N PS (.ret d) m j = PS (.ret d) m j := rfl
end
/-- the slots are so (kept from simp) -/
def Is (m n : Sd) : Prop := m = n
/-! ### loops -/
section
variable {s : Sv J} {t : Tv J} {f : Ev J} {m wm : Sd} {j : J} {PS : Fl → Sd → J → Prop} {E : XP J} {γ : Gv} {P : List D → J → Prop}
theorem WF.mo {φ : Fv J} [h : MoF φ] {ds : List D} {P P' : D → J → Prop} {E E' : Ex → J → Prop} (h1 : WF φ ds j P E) (q : ∀ d j', P d j' → P' d j') (x : ∀ e j', E e j' → E' e j') : WF φ ds j P' E' := h.mo h1 q x
theorem wL_aux [h : MoS s] {Pv : Nat → Sd → J → Prop} {all : List D} (hs : ∀ k d m j, all[k]? = some d → Pv k m j → ∃ m1, γ d m = some m1 ∧ s m1 j (turnS (fun m2 j2 => Pv (k + 1) m2 j2) PS) E) (hd : ∀ m j, Pv all.length m j → PS .next m j) :
    ∀ (ds : List D) (k : Nat) (m : Sd) (j : J), all.drop k = ds → k ≤ all.length → Pv k m j → forW γ s ds m j PS E
  | [], k, m, j, e, hk, p => by
    have h0 := congrArg List.length e
    simp at h0
    have : k = all.length := by omega
    subst this
    exact hd m j p
  | d :: ds, k, m, j, e, hk, p => by
    have hlt : k < all.length := by
      have := congrArg List.length e
      simp at this; omega
    have hg : all[k]? = some d := by
      rw [List.drop_eq_getElem_cons hlt] at e
      rw [List.getElem?_eq_getElem hlt]
      exact congrArg some (List.cons.inj e).1
    obtain ⟨m1, e1, q⟩ := hs k d m j hg p
    refine ⟨m1, e1, h.mo q (turnS_mo (fun m2 j2 p2 => wL_aux hs hd ds (k + 1) m2 j2 ?_ hlt p2) fun _ _ _ z => z) fun _ _ _ z => z⟩
    rw [List.drop_eq_getElem_cons hlt] at e
    exact (List.cons.inj e).2
/-- a for by its invariant: Pv k m j holds where k items are done -/
theorem wL_inv [MoS s] {ds : List D} (Pv : Nat → Sd → J → Prop) (h0 : Pv 0 m j) (hs : ∀ k d m j, ds[k]? = some d → Pv k m j → ∃ m1, γ d m = some m1 ∧ s m1 j (turnS (fun m2 j2 => Pv (k + 1) m2 j2) PS) E) (hd : ∀ m j, Pv ds.length m j → PS .next m j) :
    WL γ s ds m j PS E := wL_aux hs hd ds 0 m j rfl (Nat.zero_le _) h0
theorem wC_aux [ht : MoT t] [hf : MoE f] {Pv : Nat → List D → J → Prop} {all : List D} (hs : ∀ k d acc j, all[k]? = some d → Pv k acc j → ∃ m1, γ d wm = some m1 ∧ t m1 j (fun b j1 => if b = true then f m1 j1 (fun y j2 => Pv (k + 1) (acc ++ [y]) j2) xNo else Pv (k + 1) acc j1) xNo) (hd : ∀ ys j, Pv all.length ys j → P ys j) :
    ∀ (ds : List D) (k : Nat) (acc : List D) (j : J), all.drop k = ds → k ≤ all.length → Pv k acc j → compW wm γ t f ds acc j P
  | [], k, acc, j, e, hk, p => by
    have h0 := congrArg List.length e
    simp at h0
    have : k = all.length := by omega
    subst this
    exact hd acc j p
  | d :: ds, k, acc, j, e, hk, p => by
    have hlt : k < all.length := by
      have := congrArg List.length e
      simp at this; omega
    have hg : all[k]? = some d := by
      rw [List.drop_eq_getElem_cons hlt] at e
      rw [List.getElem?_eq_getElem hlt]
      exact congrArg some (List.cons.inj e).1
    have ed : all.drop (k + 1) = ds := by
      rw [List.drop_eq_getElem_cons hlt] at e
      exact (List.cons.inj e).2
    obtain ⟨m1, e1, q⟩ := hs k d acc j hg p
    exact ⟨m1, e1, ht.mo q (fun _ _ p => ite_mono p (fun p => hf.mo p (fun y j2 p2 => wC_aux hs hd ds (k + 1) _ j2 ed hlt p2) fun _ _ _ z => z) fun p => wC_aux hs hd ds (k + 1) _ _ ed hlt p) fun _ _ _ z => z⟩
/-- a comprehension by its invariant: k items are looked at, acc is made -/
theorem wC_inv [MoT t] [MoE f] {ds : List D} (Pv : Nat → List D → J → Prop) (h0 : Pv 0 [] j) (hs : ∀ k d acc j, ds[k]? = some d → Pv k acc j → ∃ m1, γ d wm = some m1 ∧ t m1 j (fun b j1 => if b = true then f m1 j1 (fun y j2 => Pv (k + 1) (acc ++ [y]) j2) xNo else Pv (k + 1) acc j1) xNo)
    (hd : ∀ ys j, Pv ds.length ys j → P ys j) : WC wm γ t f ds j P := wC_aux hs hd ds 0 [] j rfl (Nat.zero_le _) h0
/-- a comprehension over L, each item by itself -/
theorem wC_map [MoE f] {α : Type} {L : List α} {c : α → D} (h : α → D) (hs : ∀ x ∈ L, ∃ m1, γ (c x) wm = some m1 ∧ f m1 j (fun y j2 => y = h x ∧ j2 = j) xNo) (hd : P (L.map h) j) : WC wm γ tYesD f (L.map c) j P := by
  refine wC_inv (fun k acc j' => acc = (L.take k).map h ∧ j' = j) ⟨rfl, rfl⟩ (fun k d acc j' e ⟨e1, e2⟩ => ?_) fun ys j' ⟨e1, e2⟩ => ?_
  · rw [List.getElem?_map, Option.map_eq_some_iff] at e
    obtain ⟨x, hx, rfl⟩ := e
    subst e1 e2
    obtain ⟨m1, e3, q⟩ := hs x (List.mem_of_getElem? hx)
    refine ⟨m1, e3, ?_⟩
    show f m1 j' _ xNo
    refine MoE.mo q (fun y j2 ⟨e4, e5⟩ => ?_) fun _ _ _ z => z
    subst e4 e5
    refine ⟨?_, rfl⟩
    rw [List.take_add_one, hx]
    simp
  · rw [List.length_map, List.take_length] at e1
    rw [e1, e2]; exact hd
/-- .. those that pass a test -/
theorem wC_filter [MoT t] [MoE f] {α : Type} {L : List α} {c : α → D} (p : α → Bool) (h : α → D) (hs : ∀ x ∈ L, ∃ m1, γ (c x) wm = some m1 ∧ t m1 j (fun b j1 => b = p x ∧ j1 = j) xNo ∧ (p x = true → f m1 j (fun y j2 => y = h x ∧ j2 = j) xNo)) (hd : P ((L.filter p).map h) j) : WC wm γ t f (L.map c) j P := by
  refine wC_inv (fun k acc j' => acc = ((L.take k).filter p).map h ∧ j' = j) ⟨rfl, rfl⟩ (fun k d acc j' e ⟨e1, e2⟩ => ?_) fun ys j' ⟨e1, e2⟩ => ?_
  · rw [List.getElem?_map, Option.map_eq_some_iff] at e
    obtain ⟨x, hx, rfl⟩ := e
    subst e1 e2
    obtain ⟨m1, e3, q, r⟩ := hs x (List.mem_of_getElem? hx)
    refine ⟨m1, e3, MoT.mo q (fun b j1 ⟨e4, e5⟩ => ?_) fun _ _ _ z => z⟩
    subst e4 e5
    rw [List.take_add_one, hx]
    cases hp : p x with
    | true =>
      refine MoE.mo (r hp) (fun y j2 ⟨e6, e7⟩ => ?_) fun _ _ _ z => z
      subst e6 e7
      exact ⟨by simp [hp], rfl⟩
    | false => exact ⟨by simp [hp], rfl⟩
  · rw [List.length_map, List.take_length] at e1
    rw [e1, e2]; exact hd
theorem nrng {k : Nat} : rngD 0 k = (List.range k).map fun i => D.int ((i : Nat) : Int) := by unfold rngD; simp
theorem wC_rng [MoE f] {k : Nat} (h : Nat → D) (hs : ∀ i, i < k → ∃ m1, γ (.int ((i : Nat) : Int)) wm = some m1 ∧ f m1 j (fun y j2 => y = h i ∧ j2 = j) xNo) (hd : P ((List.range k).map h) j) : WC wm γ tYesD f (rngD 0 k) j P := by
  rw [nrng]
  exact wC_map h (fun x hx => hs x (List.mem_range.mp hx)) hd
theorem wH_aux [ht : MoT t] [hs : MoS s] {Pv : Nat → Sd → J → Prop} (hw : ∀ k m j, Pv k m j → t m j (fun b j1 => if b = true then s m j1 (turnS (fun m2 j2 => ∃ k', k' < k ∧ Pv k' m2 j2) PS) E else PS .next m j1) E) : ∀ (n k : Nat) (m : Sd) (j : J), k < n → Pv k m j → whW t s n m j PS E
  | 0, k, m, j, h, _ => absurd h (Nat.not_lt_zero _)
  | n + 1, k, m, j, h, p => ht.mo (hw k m j p) (fun b j1 q => ite_mono q (fun q => hs.mo q (turnS_mo (fun m2 j2 ⟨k', l, p'⟩ => wH_aux hw n k' m2 j2 (by omega) p') fun _ _ _ z => z) fun _ _ _ z => z) fun q => q) fun _ _ _ z => z
/-- a while by its invariant and a number that falls -/
theorem wH_inv [MoT t] [MoS s] (Pv : Nat → Sd → J → Prop) (n : Nat) (h0 : Pv n m j) (hw : ∀ k m j, Pv k m j → t m j (fun b j1 => if b = true then s m j1 (turnS (fun m2 j2 => ∃ k', k' < k ∧ Pv k' m2 j2) PS) E else PS .next m j1) E) : WH t s m j PS E := ⟨n + 1, wH_aux hw (n + 1) n m j (Nat.lt_succ_self _) h0⟩
/-- what holds between two statements -/
theorem wSeq [h1 : MoS s] {s2 : Sv J} (R : Fl → Sd → J → Prop) (h : s m j R E) (q : ∀ l m' j', R l m' j' → thenS s2 PS E l m' j') : sSeq s s2 m j PS E := h1.mo h q fun _ _ _ z => z
end
@[simp] theorem exS {α : Type} {a : α} {P : α → Prop} : (∃ z, some a = some z ∧ P z) ↔ P a := by
  constructor
  · rintro ⟨z, e, p⟩; cases e; exact p
  · intro p; exact ⟨a, rfl, p⟩
@[simp] theorem gN_i {i : Nat} {d : D} {m : Sd} : gNm i d m = some (m.set i (some d)) := rfl
@[simp] theorem gT_i {γ : Gvs} {ds : List D} {m : Sd} : gTp γ (.tup ds) m = γ ds m := rfl
@[simp] theorem gC_i {γ : Gv} {γs : Gvs} {d : D} {ds : List D} {m : Sd} : gsCons γ γs (d :: ds) m = (match γ d m with | some m1 => γs ds m1 | none => none) := rfl
@[simp] theorem g0_i {m : Sd} : gsNil [] m = some m := rfl
@[simp] theorem wp_0 {m : Sd} : wipeD m [] = m := rfl
@[simp] theorem wp_1 {m : Sd} {v : Nat} {vs : List Nat} : wipeD m (v :: vs) = (wipeD m vs).set v none := rfl
@[simp] theorem add_i {a b : Int} : addD (.int a) (.int b) = some (.int (a + b)) := rfl
@[simp] theorem sub_i {a b : Int} : subD (.int a) (.int b) = some (.int (a - b)) := rfl
theorem mul_i {a b : Int} (ha : sm a = true) (hb : sm b = true) : mulD (.int a) (.int b) = some (.int (a * b)) := by unfold mulD; simp [sg_sm ha, sg_sm hb]
theorem div_i {a b : Int} (h0 : 0 < b) (hb : sm b = true) : fdivD (.int a) (.int b) = some (.int (a / b)) := by unfold fdivD; simp [h0, hb]
theorem mod_i {a b : Int} (h0 : 0 < b) : modD (.int a) (.int b) = some (.int (a % b)) := by unfold modD; simp [h0]
@[simp] theorem neg_i {a : Int} : negD (.int a) = some (.int (-a)) := rfl
@[simp] theorem lt_i {a b : Int} : ltD (.int a) (.int b) = some (.bl (decide (a < b))) := rfl
@[simp] theorem le_i {a b : Int} : leD (.int a) (.int b) = some (.bl (decide (a ≤ b))) := rfl
@[simp] theorem gt_i {a b : Int} : gtD (.int a) (.int b) = some (.bl (decide (b < a))) := rfl
@[simp] theorem ge_i {a b : Int} : geD (.int a) (.int b) = some (.bl (decide (b ≤ a))) := rfl
@[simp] theorem eq_i {a b : Int} : eqD (.int a) (.int b) = some (.bl (decide (a = b))) := rfl
@[simp] theorem ne_i {a b : Int} : neD (.int a) (.int b) = some (.bl (!decide (a = b))) := rfl
@[simp] theorem eq_s {a b : Str} : eqD (.str a) (.str b) = some (.bl (decide (a = b))) := rfl
@[simp] theorem ne_s {a b : Str} : neD (.str a) (.str b) = some (.bl (!decide (a = b))) := rfl
@[simp] theorem eq_b {a b : Bool} : eqD (.bl a) (.bl b) = some (.bl (decide (a = b))) := rfl
@[simp] theorem ne_b {a b : Bool} : neD (.bl a) (.bl b) = some (.bl (!decide (a = b))) := rfl
@[simp] theorem len_l {xs : List D} : lenB [.lst xs] = some (.int xs.length) := rfl
@[simp] theorem len_t {xs : List D} : lenB [.tup xs] = some (.int xs.length) := rfl
@[simp] theorem tup_l {xs : List D} : tupleB [.lst xs] = some (.tup xs) := rfl
@[simp] theorem tup_t {xs : List D} : tupleB [.tup xs] = some (.tup xs) := rfl
@[simp] theorem lst_l {xs : List D} : listB [.lst xs] = some (.lst xs) := rfl
@[simp] theorem lst_t {xs : List D} : listB [.tup xs] = some (.lst xs) := rfl
@[simp] theorem rev_t {xs : List D} : revD (.tup xs) = some (.tup xs.reverse) := rfl
@[simp] theorem rev_l {xs : List D} : revD (.lst xs) = some (.lst xs.reverse) := rfl
@[simp] theorem rev_L {xs : List D} : revL (.lst xs) = some (.lst xs.reverse) := rfl
@[simp] theorem max_i {a b : Int} : maxB [.int a, .int b] = some (.int (if b > a then b else a)) := rfl
@[simp] theorem min_i {a b : Int} : minB [.int a, .int b] = some (.int (if b < a then b else a)) := rfl
theorem atI_nat {α : Type} {xs : List α} {i : Nat} {x : α} (h : xs[i]? = some x) : atI xs ((i : Nat) : Int) = some x := by
  obtain ⟨hl, _⟩ := List.getElem?_eq_some_iff.mp h
  unfold atI ixN
  rw [if_pos (Int.natCast_nonneg _), if_pos (by omega), Option.bind_some, Int.toNat_natCast, h]
theorem idx_t {xs : List D} {i : Nat} {x : D} (h : xs[i]? = some x) : idxD (.tup xs) (.int ((i : Nat) : Int)) = some x := atI_nat h
theorem idx_l {xs : List D} {i : Nat} {x : D} (h : xs[i]? = some x) : idxD (.lst xs) (.int ((i : Nat) : Int)) = some x := atI_nat h
theorem sm_of {i : Int} (h1 : -(10 ^ 59) ≤ i) (h2 : i ≤ 10 ^ 59) : sm i = true := sm_iff.mpr ⟨by omega, by omega⟩
@[simp] theorem seq_l {xs : List D} : seqL (.lst xs) = some xs := rfl
@[simp] theorem seq_t {xs : List D} : seqL (.tup xs) = some xs := rfl
@[simp] theorem isq_l {xs : List D} : isSq (.lst xs) = True := rfl
@[simp] theorem isq_t {xs : List D} : isSq (.tup xs) = True := rfl
@[simp] theorem zip_l {xs ys : List D} : zipO (.lst xs) (.lst ys) = some (zipD xs ys) := rfl
@[simp] theorem zip_t {xs ys : List D} : zipO (.tup xs) (.tup ys) = some (zipD xs ys) := rfl
@[simp] theorem addI_i {a b : Int} : addI (.int a) (.int b) = some (.int (a + b)) := rfl
@[simp] theorem subI_i {a b : Int} : subI (.int a) (.int b) = some (.int (a - b)) := rfl
/-! repr -/
mutual
/-- plain data of small ints -/
def shw : D → Bool
  | .non => true
  | .bl _ => true
  | .int i => sm i
  | .tup xs => shwL xs
  | .lst xs => shwL xs
  | _ => false
def shwL : List D → Bool
  | [] => true
  | x :: xs => shw x && shwL xs
end
mutual
/-- more than the length of its repr -/
def szD : D → Nat
  | .tup xs => szL xs + 4
  | .lst xs => szL xs + 4
  | _ => 70
def szL : List D → Nat
  | [] => 0
  | x :: xs => szD x + 2 + szL xs
end
mutual
def dpD : D → Nat
  | .tup xs => dpL xs + 1
  | .lst xs => dpL xs + 1
  | _ => 0
def dpL : List D → Nat
  | [] => 0
  | x :: xs => max (dpD x) (dpL xs)
end
theorem int_len {i : Int} (h : sm i = true) : (PyData.shown (.int i)).length ≤ 70 := by
  have h := sm_iff.mp h
  have e := int_text_length_le10 (a := i) (k := 60) (by decide) (by omega)
  show (Str.ofString (toString i)).length ≤ 70
  rw [PySem.ofString_length]
  exact Nat.le_trans e (by decide)
mutual
theorem py_ok : ∀ (d : D), shw d = true → ∃ p, py d = some p ∧ p.showable = true ∧ p.depth = dpD d ∧ p.shown.length ≤ szD d
  | .non, _ => ⟨_, rfl, rfl, rfl, by decide⟩
  | .bl b, _ => ⟨_, rfl, rfl, rfl, by cases b <;> decide⟩
  | .int i, h => ⟨_, rfl, by
      have h' : sm i = true := h
      show decide _ = true
      rw [decide_eq_true_eq]
      exact Nat.lt_of_lt_of_le (sm_log h') (by decide), rfl, int_len h⟩
  | .tup xs, h => by
    obtain ⟨ps, h1, h2, h3, h4, h5⟩ := pyL_ok xs h
    refine ⟨.tuple ps, by unfold py; rw [h1], h2, by show PyData.depthAll ps + 1 = _; rw [h3]; rfl, ?_⟩
    have := tupleText_len_le (PyData.shownAll ps)
    show (tupleText (PyData.shownAll ps)).length ≤ szL xs + 4
    omega
  | .lst xs, h => by
    obtain ⟨ps, h1, h2, h3, h4, h5⟩ := pyL_ok xs h
    refine ⟨.list ps, by unfold py; rw [h1], h2, by show PyData.depthAll ps + 1 = _; rw [h3]; rfl, ?_⟩
    have := listText_len_le (PyData.shownAll ps)
    show (listText (PyData.shownAll ps)).length ≤ szL xs + 4
    omega
  | .str _, h => by cases h
  | .dct _, h => by cases h
  | .jar, h => by cases h
  | .obj _, h => by cases h
  | .ins _ _, h => by cases h
theorem pyL_ok : ∀ (ds : List D), shwL ds = true → ∃ ps, pyL ds = some ps ∧ PyData.showableAll ps = true ∧ PyData.depthAll ps = dpL ds ∧ (PyData.shownAll ps).length = ds.length ∧ ((PyData.shownAll ps).map (·.length)).sum + 2 * (PyData.shownAll ps).length ≤ szL ds
  | [], _ => ⟨[], rfl, rfl, rfl, rfl, by decide⟩
  | d :: ds, h => by
    unfold shwL at h
    rw [Bool.and_eq_true] at h
    obtain ⟨p, a1, a2, a3, a4⟩ := py_ok d h.1
    obtain ⟨ps, h1, h2, h3, h4, h5⟩ := pyL_ok ds h.2
    refine ⟨p :: ps, by unfold pyL; rw [a1, h1], by unfold PyData.showableAll; rw [a2, h2]; rfl, by unfold PyData.depthAll dpL; rw [a3, h3], by unfold PyData.shownAll; simp [h4], ?_⟩
    unfold PyData.shownAll szL
    simp only [List.map_cons, List.sum_cons, List.length_cons]
    omega
end
end Mp

/-! NR: more rules: xs[-2::-1] of an owned list. -/
namespace Mp
open PySem PySem.Spec L2
open PyProof.Rows hiding St
variable {J : Type}
section
variable {S : Js J} {B : Bs} {M : Nat → Bool} {W : WX} {X : Cx} {e a b : Expr} {pos : Pos} {fa : Ev J} {x : Str}
def tRev2 (K : PySem.W.Frag) (te : TE) : TE := fun σ H Q => te σ H fun x H1 => ∃ a xs, x = .ref a ∧ SqL K H1 a xs ∧ ∀ p, H1 p = none → Q (.ref p) (upd H1 p (.lst xs.dropLast.reverse))
def rev2L : D → Option D
  | .lst xs => some (.lst xs.dropLast.reverse)
  | _ => none
end
@[simp] theorem rev2_l {xs : List D} : rev2L (.lst xs) = some (.lst xs.dropLast.reverse) := rfl
end Mp

/-! NS: defs with a star parameter. -/
namespace Mp
open PySem PySem.Spec L2
open PyProof.Rows hiding St
variable {J : Type}
/-- an exception that is told from a state with a new tuple is told from the state ahead of it -/
def CXNw (CX : CXT) : Prop := ∀ (outer : List Env) (s : Shared) (H : Hp) (h2 : Heap) (p : Addr) (rest : HO) (E : XK) (e : Value) (s' : Shared), (∀ b o, s.heap.get? b = some o → h2.get? b = some o) → s.heap.objs.size ≤ p → H p = none →
  CX outer (upd H p rest) { s with heap := h2 } E e s' → CX outer H s E e s'
/-- a call's promise, the arguments by position -/
def FnV (P : Program) (w : World) (K : PySem.W.Frag) (mg : Str → Option Value) (base : Heap) (CX : CXT) (k : Nat) (f : Addr) (sp : Sp) : Prop :=
  ∀ (A : Around) (outer : List Env) (s : Shared) (H : Hp) (us : List Value) (vs : List V) (Q : VK) (E : XK), Room k A → A.guards = some [] → Env0 P w K mg base A outer s H → Vals vs us → sp vs H Q E → codeAny (model P w) A (.call (.ref f) ⟨us, []⟩) (CR CX outer P w H s Q E) s
/-! on data -/
def spV (S : Js J) (φ : Fv J) : Sp := fun vs H Q E => ∃ F A j ds P Ep, Same F H ∧ (∀ b o, F b = some o → ¬ A b) ∧ S.rep j F A H ∧ (∃ o u, H sysModules = some (.frz o u)) ∧ RpL S F ds vs ∧ φ ds j P Ep ∧
  (∀ d j' F' A' H' v, P d j' → FPost S F A H F' A' H' j' → Rp S F' d v → Q v H') ∧ (∀ e j' F' A' H' cls dx, Ep e j' → FPost S F A H F' A' H' j' → ExR S F' e cls dx → E cls dx H')
/-- n parameters, then at most x more -/
def runV (k n x : Nat) (f : Sv J) (ds : List D) (j : J) (P : D → J → Prop) (E : Ex → J → Prop) : Prop := n ≤ ds.length ∧ ds.length ≤ n + x ∧ runF k (n + 1) f (ds.take n ++ [.tup (ds.drop n)]) j P E
instance {k n x : Nat} {f : Sv J} [h : MoS f] : MoF (runV k n x f) := ⟨fun ⟨l, l2, p⟩ q y => ⟨l, l2, MoF.mo p q y⟩⟩
section
variable {P : Program} {w : World} {K : PySem.W.Frag} {mg : Str → Option Value} {base : Heap} {S : Js J}
/-- a star def that may be called -/
structure CalV (S : Js J) (P : Program) (w : World) (mg : Str → Option Value) (base : Heap) (k : Nat) (x : Str) (φ : Fv J) : Prop where
  ex : ∃ fn, FnV P w S.K mg base (L2.CX P w) k fn (spV S φ) ∧ mg x = some (.ref fn) ∧ PySem.W.keepIn S.K (.ref fn) = true
end
section
variable {S : Js J} {B : Bs} {M : Nat → Bool} {W : WX} {X : Cx} {e : Expr} {es : List Expr} {pos p : Pos} {fr : Av J} {x : Str} {φ : Fv J} {k : Nat} {fn : Addr}
end
/-! ### starred items -/
def seqT : D → Option (List D)
  | .lst xs => some xs
  | .tup xs => some xs
  | _ => none
def aStar (fa : Ev J) (fr : Av J) (m : Sd) (j : J) (P : List D → J → Prop) (E : XP J) : Prop := fa m j (fun x j1 => ∃ xs, seqT x = some xs ∧ fr m j1 (fun ys j2 => P (xs ++ ys) j2) E) E
instance {fa : Ev J} {fr : Av J} [ha : MoE fa] [hb : MoA fr] : MoA (aStar fa fr) := ⟨fun h q x => ha.mo h (fun _ _ ⟨xs, e, h1⟩ => ⟨xs, e, hb.mo h1 (fun _ _ p => q _ _ p) x⟩) x⟩
section
variable {S : Js J} {B : Bs} {M : Nat → Bool} {W : WX} {X : Cx} {e : Expr} {es : List Expr} {p : Pos} {fa : Ev J} {fr : Av J}
end
/-! ### a, b = a list -/
def gLs (γs : Gvs) : Gv := fun d m => match d with
  | .lst ds => γs ds m
  | _ => none
section
variable {S : Js J} {B : Bs} {M : Nat → Bool} {X : Cx} {es : List Expr} {pos : Pos}
end
end Mp

/-! NT: sorted(set(..)), len(set(..)) of ints. -/
namespace Mp
open PySem PySem.Spec L2
open PyProof.Rows hiding St
section
variable {P : Program} {w : World} {A : Around} {E : Value → Shared → Prop} {s : Shared}
set_option maxRecDepth 100000 in
set_option maxHeartbeats 3200000 in
end
end Mp

/-! NU: sorted(set(..)), len(set(..)) of ints, on data. -/
namespace Mp
open PySem PySem.Spec L2
open PyProof.Rows hiding St
variable {J : Type}
section
open PySem.Spec PyProof.Rows
variable {P : Program} {w : World} {A : Around} {E : Value → Shared → Prop} {s : Shared} {a : Addr}
end
/-- the members, ascending -/
def ssort (ns : List Int) : List Int := isort ns.eraseDups
def ssI (xs : List D) : Option D := match ints? xs with | some ns => if ns.length < 4000 then some (.lst ((ssort ns).map D.int)) else none | none => none
def slI (xs : List D) : Option D := match ints? xs with | some ns => if ns.length < 1000 then some (.int (ssort ns).length) else none | none => none
def sortSetD : D → Option D
  | .lst xs => ssI xs
  | .tup xs => ssI xs
  | _ => none
def lenSetD : D → Option D
  | .lst xs => slI xs
  | _ => none
def tSetOf (K : PySem.W.Frag) (ta : TE) (R : List Int → Hp → VK → Prop) : TE := fun σ H Q => ta σ H fun x H1 => ∃ (l : Addr) (ns : List Int), x = V.ref l ∧ (SqL K H1 l (ns.map V.int) ∨ SqT K H1 l (ns.map V.int)) ∧ ns.length < 4000 ∧ R ns H1 Q
def rSortSet : List Int → Hp → VK → Prop := fun ns H Q => ∀ p : Addr, H p = none → Q (.ref p) (upd H p (.lst ((ssort ns).map V.int)))
section
variable {X : Cx} {a : Expr} {ta : TE} {p p2 q pos : Pos}
def tLenSet (K : PySem.W.Frag) (ta : TE) : TE := fun σ H Q => ta σ H fun x H1 => ∃ (l : Addr) (ns : List Int), x = V.ref l ∧ SqL K H1 l (ns.map V.int) ∧ ns.length < 1000 ∧ Q (.int (ssort ns).length) H1
end
section
variable {S : Js J} {B : Bs} {M : Nat → Bool} {W : WX} {X : Cx} {a : Expr} {fa : Ev J} {p p2 q pos : Pos}
end
end Mp

/-! NX: raise C(e), C an own class with one field; try .. except C as x; in the suite isinstance(x, C), x.f; {}, {'a': 0}. -/
namespace Mp
open PySem PySem.Spec L2
open PyProof.Rows hiding St
variable {J : Type}
/-! ### raise -/
def sRaise (c : Nat) (fe : Ev J) (m : Sd) (j : J) (P : Fl → Sd → J → Prop) (E : XP J) : Prop := fe m j (fun d j1 => E ⟨c, some d⟩ m j1) E
instance {c : Nat} {fe : Ev J} [h1 : MoE fe] : MoS (sRaise c fe) := ⟨fun h q x => h1.mo h (fun _ _ p => x _ _ _ p) x⟩
/-- what an __init__ with one field does -/
def spIni (K : PySem.W.Frag) (f : Str) : Sp := fun vs H Q E => ∃ (a C : Addr) (y : V), vs = [.ref a, y] ∧ OexC K C ∧ PySem.W.findIn K (.ref C) f = some none ∧ H a = some (exo a C none) ∧
  ∀ dx, H dx = none → dx ≠ a → Q .non (upd (upd H dx (exd dx [(f, y)])) a (exo a C (some dx)))
/-- a class that is raised -/
structure XMk (S : Js J) (P : Program) (w : World) (mg : Str → Option Value) (base : Heap) (c : Nat) (x : Str) : Prop where
  ex : ∃ (fI : Addr) (fd : FuncData) (ps : List Str), FnOk P w S.K mg base CX0 1 fI fd ps (spIni S.K (S.xf c)) ∧ PySem.W.findIn S.K (.ref (S.xc c)) "__init__" = some (some (.ref fI)) ∧ PySem.W.typeIn S.K (.ref fI) = some (.type "function") ∧ Binds S.K fd ps []
  T : OexC S.K (S.xc c)
  no : PySem.W.findIn S.K (.ref (S.xc c)) (S.xf c) = some none
  gl : mg x = some (.ref (S.xc c))
theorem ini_ok {P : Program} {w : World} {K : PySem.W.Frag} {mg : Str → Option Value} {base : Heap} {x qual p1 p2 f : Str} {st : Stmt} {fI : Addr} {fd : FuncData} {q1 q2 q3 q4 : Pos} (F : L2.Fun K x qual st fI fd) (Sc : FnScope [p1, p2] [p1, p2] (defScope st))
    (hb : defBody st = [.Assign [.Attribute (.Name p1 q1) f q2] (.Name p2 q3) q4]) (h1 : Vis (defScope st) p1) (h2 : Vis (defScope st) p2) (d1 : (p1 == ("__debug__" : Str)) = false) (d2 : (p2 == ("__debug__" : Str)) = false) (e1 : (p1 == ("__classdict__" : Str)) = false) (e2 : (p2 == ("__classdict__" : Str)) = false) :
    FnOk P w K mg base CX0 1 fI fd [p1, p2] (spIni K f) := by
  refine F.ok Sc (fun vs H Q E h => ?_) fun cdv A outer s H vs Q E hr h => ⟨tOst K f (tVar 0) (tVar 1), ?_, ?_⟩
  · obtain ⟨a, C, y, rfl, _⟩ := h
    rfl
  · rw [hb]
    exact pss_one (ps_ost (pe_var (i := 0) rfl h1 d1 e1) (pe_var (i := 1) rfl h2 d2 e2) rfl)
  · obtain ⟨a, C, y, rfl, T, no, ha, q⟩ := h
    exact ⟨y, rfl, .ref a, rfl, a, C, rfl, T, no, .inl ⟨ha, q⟩⟩
section
variable {S : Js J} {B : Bs} {M : Nat → Bool} {W : WX} {X : Cx} {e : Expr} {pos p p2 : Pos} {fe : Ev J} {x : Str}
theorem mk_heap {H : Hp} {a dx : Addr} {o1 o2 o3 o4 : HO} (ha : H a = none) (hd : dx ≠ a) : upd (del (upd (upd (upd H a o1) dx o2) a o3) a) dx o4 = upd H dx o4 := by
  funext b
  by_cases h1 : b = dx
  · subst h1; rw [upd_same, upd_same]
  · rw [upd_ne h1, upd_ne h1]
    by_cases h2 : b = a
    · subst h2; rw [del_same, ha]
    · rw [del_ne h2, upd_ne h2, upd_ne h1, upd_ne h2]
theorem zRaise (c : Nat) (hK : X.K = S.K) (tk : Takes X W) (C : XMk S X.prog X.w X.mg X.base c x) (hr : Room 2 X.A) (he : PE X e (rdE S B M W .clean fe)) (hcalm : X.calm = true := by rfl) (hg : Gl X x := by rfl) (hdb : (x == ("__debug__" : Str)) = false := by decide)
    (hs : starEach [e] X.env = [(false, eval e X.env)] := by rfl) (hpl : (backTo pos (starEach [] X.env)).any (·.1) = false := by rfl) : PS X (.Raise (some (.Call (.Name x p) [e] [] pos)) none p2) (rdS S B M W (sRaise c fe)) := by
  obtain ⟨fI, fd, ps, F, h1, h2, h3⟩ := C.ex
  refine PS.imp (ps_raise hcalm tk (pmk_oex (ds := []) (dvs := []) (hK ▸ C.T) (hK ▸ h1) (hK ▸ h2) (hK ▸ F) hr (hK ▸ h3) .nil pass0 hg C.gl (a_cons (k := true) he a_nil hs) hdb hs hpl)) fun En r H ⟨g, m, j, P, Ep, ok, hf, q, xo⟩ => ?_
  refine ⟨g, m, j, fun ds j' => match ds with | [d] => Ep ⟨c, some d⟩ m j' | _ => False, Ep, ok, hf, fun ds j1 g1 vs H1 pp l1 ok1 w1 => ?_, xo⟩
  cases w1 with
  | nil => exact pp.elim
  | cons w1 wr =>
    cases wr with
    | cons _ _ => exact pp.elim
    | nil =>
      rename_i d v
      refine ⟨by simp, fun a na => ?_⟩
      refine ⟨a, S.xc c, v, rfl, hK ▸ C.T, hK ▸ C.no, upd_same, fun dx hdx hne => ⟨rfl, dx, [(S.xf c, v)], upd_same, ?_, ?_, ?_⟩⟩
      · rw [upd_ne hne, upd_same]
      · rw [upd_ne hne] at hdx; exact hdx
      · have nd : H1 dx = none := by rw [upd_ne hne] at hdx; exact hdx
        rw [mk_heap na hne]
        obtain ⟨n1, n2, n3, n4⟩ := ok1.b.hn nd
        have l2 : Le g1 (g1.frz dx (.xd [(S.xf c, v)])) := Le.frz ok1.b.fg n2
        exact xo _ _ _ _ _ _ _ _ pp (l1.f.trans l2.f) ⟨ok1.b.frz _ nd, ok1.s.le l2⟩ ⟨rfl, dx, v, rfl, upd_same, Rp.mono l2.f w1⟩
end

/-! ### what is known of the classes -/
structure XCl (K : PySem.W.Frag) (C : Addr) : Prop where
  ga : PySem.W.findIn K (.ref C) "__getattribute__" = some (some (.builtin "BaseException.__getattribute__"))
  gg : PySem.W.findIn K (.ref C) "__getattr__" = some none
  exC : PySem.W.subIn K (.ref C) (.type "BaseException") = some true
  hdC : PySem.W.hasDictIn K C = true
  ha : PySem.W.findIn K (.ref C) "__class__" = some (some (.builtin "object.__class__"))
  hn : PySem.W.specialIn K (.builtin "object.__class__") "__get__" = some (some (.builtin "getset_descriptor.__get__"))
  ht : PySem.W.takesIn K (.builtin "object.__class__") = some true
  hm : PySem.W.mroIn K C (.type "object") = some true
  ty : PySem.W.typeIn K (.ref C) = some (.type "type")
  ve : PySem.W.subIn K (.ref C) (.type "ValueError") = some true
theorem XCl.isSome {K : PySem.W.Frag} {C : Addr} (h : XCl K C) : (PySem.W.clsIn K C).isSome = true := by
  obtain ⟨cd, hc, _⟩ := PySem.W.any_some h.hdC
  rw [hc]; rfl
/-- n own classes, by numbers; tT tells which is below which -/
structure XT (K : PySem.W.Frag) (mg : Str → Option Value) (xc : Nat → Addr) (tT : Nat → Nat → Bool) (n : Nat) (names : List (Str × Nat)) (attrs : List Str) : Prop where
  gl : ∀ p ∈ names, mg p.1 = some (.ref (xc p.2)) ∧ p.2 < n
  cl : ∀ c, XCl K (xc c)
  no : ∀ f ∈ attrs, ∀ c, PySem.W.findIn K (.ref (xc c)) f = some none
  su : ∀ c k, k < n → PySem.W.subIn K (.ref (xc c)) (.ref (xc k)) = some (tT c k)
  rf : ∀ k, k < n → tT k k = true
section
variable {K : PySem.W.Frag} {mg : Str → Option Value} {xc : Nat → Addr} {tT : Nat → Nat → Bool} {n : Nat} {names : List (Str × Nat)} {attrs : List Str}
theorem XT.kit (T : XT K mg xc tT n names attrs) (c : Nat) {k : Nat} (hk : k < n) : PySem.W.kitOne K (.ref (xc c)) (.ref (xc k)) = some (tT c k) := by
  unfold PySem.W.kitOne
  split
  · rename_i h
    have e : xc c = xc k := Value.ref.inj (beq_iff_eq.mp h)
    have h1 := T.su c k hk
    rw [e, T.su k k hk, T.rf k hk] at h1
    exact h1
  · unfold PySem.W.kitCls
    have e2 : ((PySem.W.clsIn K (xc k)).isSome && PySem.W.typeIn K (.ref (xc k)) == some (.type "type")) = true := by rw [(T.cl k).isSome, (T.cl k).ty]; rfl
    show (if _ then _ else _) = _
    rw [if_pos e2]
    exact T.su c k hk
theorem kitMeta_ve : PySem.W.kitMeta "ValueError" = true := by decide +kernel
theorem XT.kitV (T : XT K mg xc tT n names attrs) (c : Nat) : PySem.W.kitOne K (.ref (xc c)) (.type "ValueError") = some true := by
  unfold PySem.W.kitOne
  split
  · rfl
  · unfold PySem.W.kitCls
    show (if _ then _ else _) = _
    rw [if_pos kitMeta_ve]
    exact (T.cl c).ve
theorem XT.exm (T : XT K mg xc tT n names attrs) (c : Nat) {k : Nat} (hk : k < n) : PySem.W.exmOne K (.ref (xc c)) (.ref (xc k)) = some (tT c k) := PySem.W.exm_ref (T.cl k).exC (T.cl k).hdC (T.cl k).ty (T.su c k hk)
end

/-! ### try -/
def sTry (i : Nat) (cat : Nat → Bool) (fb : Sv J) (fs : Addr → Ex → Sv J) (m : Sd) (j : J) (P : Fl → Sd → J → Prop) (E : XP J) : Prop :=
  fb m j P (fun e m' j' => if cat e.c = true then ∀ a, fs a e (m'.set i (some (.obj a))) j' (fun l m2 j2 => P l (m2.set i none) j2) (fun _ _ _ => False) else E e m' j')
instance {i : Nat} {cat : Nat → Bool} {fb : Sv J} {fs : Addr → Ex → Sv J} [h1 : MoS fb] [h2 : ∀ a e, MoS (fs a e)] : MoS (sTry i cat fb fs) :=
  ⟨fun h q x => h1.mo h q fun e m' j' z => ite_mono z (fun z a => (h2 a e).mo (z a) (fun _ _ _ p => q _ _ _ p) fun _ _ _ z => z) fun z => x _ _ _ z⟩
section
variable {S : Js J} {B : Bs} {M : Nat → Bool} {W : WX} {X : Cx} {g g' : Gh} {H H' : Hp} {j j' : J} {r : St} {m : Sd}
theorem OkB.inner (k : OkB S B g H j) : OkB S ⟨g.F, B.H0, B.A0⟩ g H j := ⟨k.fg, k.gh, k.ga, k.jr, Same.refl _, fun b o e => (k.g0 b o e).imp (fun z => k.f0 b o z) id, k.a0, k.h0, k.h1, k.sm⟩
theorem OkB.outer (k : OkB S B g H j) (z : OkB S ⟨g.F, B.H0, B.A0⟩ g' H' j') : OkB S B g' H' j' :=
  ⟨z.fg, z.gh, z.ga, z.jr, k.f0.trans z.f0, fun b o e => (z.g0 b o e).elim (fun y => k.g0 b o (k.fg b o y)) .inr, z.a0, z.h0, z.h1, z.sm⟩
theorem Slots.gone (h : Slots S g M r m) (i : Nat) : Slots S g M (r.set i none) (m.set i none) := by
  have ne : ∀ {k : Nat} {d : D}, (m.set i none)[k]? = some (some d) → k ≠ i ∧ m[k]? = some (some d) := fun {k d} e => by
    by_cases hk : k = i
    · subst hk
      by_cases hl : k < m.length
      · rw [List.getElem?_set_self hl] at e; cases e
      · rw [List.getElem?_eq_none (by simpa using hl)] at e; cases e
    · rw [List.getElem?_set_ne (Ne.symm hk)] at e
      exact ⟨hk, e⟩
  refine ⟨by simpa using h.len, fun k d e q => ?_, fun k d e q => ?_, fun k l a d d' e1 e2 q1 q2 r1 r2 => ?_⟩
  · obtain ⟨hk, e⟩ := ne e
    rw [List.getElem?_set_ne (Ne.symm hk)]
    exact h.fr k d e q
  · obtain ⟨hk, e⟩ := ne e
    rw [List.getElem?_set_ne (Ne.symm hk)]
    exact h.ow k d e q
  · obtain ⟨hk, e1⟩ := ne e1
    obtain ⟨hl, e2⟩ := ne e2
    rw [List.getElem?_set_ne (Ne.symm hk)] at r1
    rw [List.getElem?_set_ne (Ne.symm hl)] at r2
    exact h.dj k l a d d' e1 e2 q1 q2 r1 r2
variable {x n : Str} {c : Value} {i : Nat} {body suite : List Stmt} {b0 : Stmt} {np pos pos' : Pos} {cat : Nat → Bool} {fb : Sv J} {fs : Addr → Ex → Sv J}
theorem zTry (i : Nat) (hK : X.K = S.K) (hN : X.N.Nodup) (hc : Names X x c) (hcat : ∀ k, PySem.W.exmOne S.K (.ref (S.xc k)) c = some (cat k)) (tk : Takes X W)
    (hb : ∀ (W : WX) (pn : List (Addr × Obj)) (xe : Value → Shared → Prop), Takes (X.tr pn xe) W → PassesOwn (model X.prog X.w) X.A X.env xe → PSs (X.tr pn xe) body (rdS S B M W fb))
    (hsu : ∀ (a : Addr) (oe : Obj) (ex : Ex) (d : Option Addr) (pn : List (Addr × Obj)) (B' : Bs), Zc (.ref (S.xc ex.c)) d oe → (∃ vs, oe.data = .fields vs) → ExR S B'.F0 ex (.ref (S.xc ex.c)) d → PSs (X.suite a ((a, oe) :: pn)) (b0 :: suite) (rdS S B' M W0 (fs a ex)))
    (hM : M i = false := by rfl) (hi : X.N[i]? = some n := by rfl) (hln : X.env.kindOf n = some .local := by rfl) (hs : X.stack = X.env :: X.outer := by rfl) (hf : X.env.frame = some X.env.locals := by rfl) :
    PS X (.Try body [.ExceptHandler (some (.Name x np)) (some n) (b0 :: suite) pos'] [] [] pos) (rdS S B M W (sTry i cat fb fs)) := by
  refine PS.imp (ps_try_as (i := i) (Wout := W) (tb := fun W => rdS S B M W fb) (ts := fun a cls d D σ H => ∃ (ex : Ex) (B' : Bs), cls = .ref (S.xc ex.c) ∧ ExR S B'.F0 ex cls d ∧ rdS S B' M W0 (fs a ex) D σ H) hs hf hN hi hln hc tk hb ?_) fun D σ H h => ?_
  · intro a oe cls d pn hz hv
    refine ⟨fun pins s σ H D I h => ?_⟩
    obtain ⟨ex, B', rfl, hx, h⟩ := h
    exact (hsu a oe ex d pn B' hz hv hx).run pins s σ H D I h
  · obtain ⟨g, m, j, P, Ep, ok, hf, q, xo⟩ := h
    refine ⟨g, m, j, P, _, ok, hf, q, fun ex m' j' g' r' H' cls dx he l ok' xr => ?_⟩
    have hcls : cls = .ref (S.xc ex.c) := xr.1
    subst hcls
    refine ⟨cat ex.c, by rw [hK]; exact hcat _, fun hb1 a na => ?_, fun hb1 => ?_⟩
    · dsimp only at he
      rw [if_pos hb1] at he
      have st0 := he a
      refine ⟨ex, ⟨g'.F, B.H0, B.A0⟩, rfl, xr, g', _, j', _, _, ⟨ok'.b.inner, ok'.s.set_fr hM (.obj a)⟩, st0, fun fl m2 j2 p => ?_, XOut.no⟩
      cases fl with
      | next => exact fun g3 r3 H3 l3 ok3 => q _ _ _ p g3 _ H3 (l.trans l3) ⟨ok'.b.outer ok3.b, ok3.s.gone i⟩
      | brk => exact fun g3 r3 H3 l3 ok3 => q _ _ _ p g3 _ H3 (l.trans l3) ⟨ok'.b.outer ok3.b, ok3.s.gone i⟩
      | cnt => exact fun g3 r3 H3 l3 ok3 => q _ _ _ p g3 _ H3 (l.trans l3) ⟨ok'.b.outer ok3.b, ok3.s.gone i⟩
      | ret d => exact fun g3 H3 v3 ok3 rv => q _ _ _ p g3 H3 v3 (ok'.b.outer ok3) rv
    · dsimp only at he
      rw [if_neg (by rw [hb1]; exact Bool.false_ne_true)] at he
      exact xo _ _ _ _ _ _ _ _ he l ok' xr
end

/-! ### in the suite -/
/-- isinstance(x, ..): x is what was caught -/
def eIsX (a : Addr) (b : Bool) (y : Option D) (fe : Ev J) (m : Sd) (j : J) (P : D → J → Prop) (E : XP J) : Prop := fe m j (fun d j1 => d = .obj a ∧ (∃ z, y = some z) ∧ P (.bl b) j1) E
/-- x.f -/
def eXf (a : Addr) (ok : Prop) (y : Option D) (fe : Ev J) (m : Sd) (j : J) (P : D → J → Prop) (E : XP J) : Prop := fe m j (fun d j1 => d = .obj a ∧ ok ∧ ∃ z, y = some z ∧ P z j1) E
instance {a : Addr} {b : Bool} {y : Option D} {fe : Ev J} [h1 : MoE fe] : MoE (eIsX a b y fe) := ⟨fun h q x => h1.mo h (fun _ _ ⟨e, z, p⟩ => ⟨e, z, q _ _ p⟩) x⟩
instance {a : Addr} {ok : Prop} {y : Option D} {fe : Ev J} [h1 : MoE fe] : MoE (eXf a ok y fe) := ⟨fun h q x => h1.mo h (fun _ _ ⟨e, o, z, ez, p⟩ => ⟨e, o, z, ez, q _ _ p⟩) x⟩
def rIsX (K : PySem.W.Frag) (C a : Addr) (d : Option Addr) : List V → Hp → VK → Prop := fun xs H Q => ∃ (c : V) (dd : Addr) (fs : List (Str × V)), xs = [.ref a, c] ∧ d = some dd ∧ H dd = some (.xd fs) ∧
  ((∃ (cv : Value) (b : Bool), (∀ u, RelV c u → u = cv) ∧ PySem.W.kitOne K (.ref C) cv = some b ∧ Q (.bl b) H) ∨
   ∃ (tp : Addr) (o : Obj) (cs : List V) (vs : List Value) (b : Bool), c = .ref tp ∧ H tp = some (.frz o (.tup cs)) ∧ (∀ us, Vals cs us → us = vs) ∧ PySem.W.kitAny K (.ref C) vs = some b ∧ Q (.bl b) H)
section
variable {S : Js J} {B : Bs} {M : Nat → Bool} {W : WX} {X : Cx} {e : Expr} {pos p p2 : Pos} {fe : Ev J} {x : Str} {a : Addr} {oe : Obj} {ex : Ex} {d : Option Addr} {pn : List (Addr × Obj)}
variable {mg : Str → Option Value} {tT : Nat → Nat → Bool} {n : Nat} {names : List (Str × Nat)} {attrs : List Str}
theorem exr_at (hx : ExR S B.F0 ex (.ref (S.xc ex.c)) d) {z : D} (hz : ex.d = some z) {g : Gh} {H : Hp} {j : J} (ok : OkB S B g H j) : ∃ dd v, d = some dd ∧ H dd = some (.xd [(S.xf ex.c, v)]) ∧ Rp S g.F z v := by
  obtain ⟨_, h2⟩ := hx
  rw [hz] at h2
  obtain ⟨dd, v, h3, h4, h5⟩ := h2
  exact ⟨dd, v, h3, ok.gh _ _ (ok.fg _ _ (ok.f0 _ _ h4)), h5.mono ok.f0⟩
/-- class names as values -/
theorem pac_nil : PA X [] (fun _ H Q => Q [] H) := pa_nil
theorem pac_cons {te : Expr} {es : List Expr} {v : V} {vs : List V} (h : PE X te (tC v)) (r : PA X es (fun _ H Q => Q vs H)) (hs : starEach (te :: es) X.env = (false, eval te X.env) :: starEach es X.env := by rfl) : PA X (te :: es) (fun _ H Q => Q (v :: vs) H) :=
  PA.imp (pa_cons h r hs) fun _ _ _ h => h
theorem XT.any {K : PySem.W.Frag} {mg : Str → Option Value} {xc : Nat → Addr} (T : XT K mg xc tT n names attrs) (c : Nat) : ∀ ks : List Nat, (∀ k ∈ ks, k < n) → PySem.W.kitAny K (.ref (xc c)) (ks.map fun k => .ref (xc k)) = some (ks.any (tT c))
  | [], _ => rfl
  | k :: ks, h => by
    rw [List.map_cons, List.any_cons]
    unfold PySem.W.kitAny
    rw [T.kit c (h k List.mem_cons_self)]
    cases tT c k with
    | true => rfl
    | false => exact T.any c ks fun y hy => h y (List.mem_cons_of_mem _ hy)
theorem vals_refs {xc : Nat → Addr} : ∀ (ks : List Nat) (us : List Value), Vals (ks.map fun k => V.ref (xc k)) us → us = ks.map fun k => .ref (xc k)
  | [], _, h => by cases h; rfl
  | k :: ks, _, h => by
    cases h with
    | cons h1 h2 => rw [vals_refs ks _ h2]; obtain rfl := h1; rfl
theorem clN {k : Nat} (hX : XT S.K X.mg S.xc tT n names attrs) (hk : (x, k) ∈ names) (hgx : Gl X x := by rfl) (hdb : (x == ("__debug__" : Str)) = false := by decide) : PE (X.suite a ((a, oe) :: pn)) (.Name x p2) (tC (.ref (S.xc k))) :=
  pe_glob (X := X.suite a ((a, oe) :: pn)) hgx (hX.gl _ hk).1 rfl hdb
/-- x.f -/
theorem xF {f : Str} (hX : XT S.K X.mg S.xc tT n names attrs) (hf' : f ∈ attrs) (hK : X.K = S.K) (hz : Zc (.ref (S.xc ex.c)) d oe) (hf : ∃ vs, oe.data = .fields vs) (hx : ExR S B.F0 ex (.ref (S.xc ex.c)) d) (he : PE (X.suite a ((a, oe) :: pn)) e (rdE S B M W .clean fe)) (hb : attributeBase e f X.env (eval e X.env) = eval e X.env := by rfl) :
    PE (X.suite a ((a, oe) :: pn)) (.Attribute e f pos) (rdE S B M W .clean (eXf a (S.xf ex.c = f) ex.d fe)) :=
  PE.imp (pe_xf (C := S.xc ex.c) (by rw [hK]; exact ⟨(hX.cl _).ga, (hX.cl _).gg, (hX.cl _).exC, (hX.cl _).hdC⟩) (by rw [hK]; exact hX.no f hf' _) hz hf he hb) fun r H Q ⟨g, m, j, P, E, ok, hf, q, xo⟩ => by
    refine ⟨g, m, j, _, E, ok, hf, fun d1 j1 g1 v1 H1 hh l1 ok1 w1 => ?_, xo⟩
    obtain ⟨rfl, rfl, z, hz, pp⟩ := hh
    obtain ⟨dd, y, h3, h4, h5⟩ := exr_at hx hz ok1.b
    cases w1
    exact ⟨rfl, rfl, dd, _, y, h3, h4, by simp [List.lookup], q _ _ g1 y H1 pp l1 ok1 h5⟩
end
/-! ### dicts with nothing or one pair of constants -/
section
variable {S : Js J} {B : Bs} {M : Nat → Bool} {W : WX} {X : Cx} {pos p1 p2 : Pos} {x : Str} {i : Int} {k1 k2 : Nat}
theorem dct0 : PE X (.Dict [] [] pos) (rdE S B M W .fresh (eC (.dct []))) :=
  PE.imp pe_dnewK fun r H Q ⟨g, m, j, P, E, ok, hf, q, xo⟩ p np => by
    obtain ⟨n1, n2, n3, n4⟩ := ok.b.hn np
    have l2 : Le g (g.see p (.dK [])) := Le.see n2
    exact q _ _ _ _ _ hf l2 ⟨ok.b.see _ np, ok.s.le l2⟩ ⟨p, rfl, n2, n1, .inr (.inl ⟨[], [], rfl, upd_same, rfl, .nil⟩)⟩
theorem dct1 : PE X (.Dict [some (.Constant (.str x) k1 p1)] [.Constant (.int i) k2 p2] pos) (rdE S B M W .fresh (eC (.dct [(.inr x, .int i)]))) :=
  PE.imp (pe_disp (pps_cons (pe_str (x := x) (j := k1) (pos := p1)) (pe_int (i := i) (j := k2) (pos := p2)) pps_nil) rfl rfl (by simp) (by simp)) fun r H Q ⟨g, m, j, P, E, ok, hf, q, xo⟩ p np => by
    obtain ⟨n1, n2, n3, n4⟩ := ok.b.hn np
    refine ⟨upd_same, [(.inr x, .int i)], rfl, by simp, ?_⟩
    rw [upd_upd]
    have l2 : Le g (g.see p (.dK [(.inr x, .int i)])) := Le.see n2
    exact q _ _ _ _ _ hf l2 ⟨ok.b.see _ np, ok.s.le l2⟩ ⟨p, rfl, n2, n1, .inr (.inl ⟨[(.inr x, .int i)], [(.inr x, .int i)], rfl, upd_same, rfl, .cons (.int _) .nil⟩)⟩
end
/-! ### step by step -/
section
variable {f : Ev J} {fb : Sv J} {fs : Addr → Ex → Sv J} {m : Sd} {j : J} {P : D → J → Prop} {PS : Fl → Sd → J → Prop} {E : XP J} {c i : Nat} {a : Addr} {b : Bool} {y : Option D} {ok : Prop} {cat : Nat → Bool}
@[simp ↓] theorem a_raise : sRaise c f m j PS E = f m j (fun d j1 => E ⟨c, some d⟩ m j1) E := rfl
@[simp ↓] theorem a_isx : eIsX a b y f m j P E = f m j (fun d j1 => d = .obj a ∧ (∃ z, y = some z) ∧ P (.bl b) j1) E := rfl
@[simp ↓] theorem a_xf : eXf a ok y f m j P E = f m j (fun d j1 => d = .obj a ∧ ok ∧ ∃ z, y = some z ∧ P z j1) E := rfl
@[simp ↓] theorem a_try : sTry i cat fb fs m j PS E = fb m j PS (fun e m' j' => if cat e.c = true then ∀ a, fs a e (m'.set i (some (.obj a))) j' (fun l m2 j2 => PS l (m2.set i none) j2) (fun _ _ _ => False) else E e m' j') := rfl
end
/-! ### xs == [], xs != [], whatever the items are -/
def eqLD (x y : D) : Option D := match x, y with | .lst (_ :: _), .lst [] => some (.bl false) | x, y => eqD x y
def neLD (x y : D) : Option D := match x, y with | .lst (_ :: _), .lst [] => some (.bl true) | x, y => neD x y
def rLn (K : PySem.W.Frag) (b : Bool) : R2 := fun x y H Q => ∃ a c xs, x = .ref a ∧ y = .ref c ∧ SqL K H a xs ∧ SqL K H c [] ∧ xs ≠ [] ∧ Q (.bl b) H
section
variable {S : Js J} {X : Cx}
theorem ln_lists {pins : List (Addr × Obj)} {σ : St} {H : Hp} {s : Shared} {a c : Addr} {xs : List V} (I : Inv X pins σ H s) (ha : SqL X.K H a xs) (hc : SqL X.K H c []) (hx : xs ≠ []) :
    ∃ i1 i2 : Array Value, s.heap.IsList a i1 ∧ s.heap.IsList c i2 ∧ (i1.size != i2.size) = true := by
  obtain ⟨its, r, ⟨o, n, e1, e2, _, e3⟩, _⟩ := I.list ha
  obtain ⟨its', r', ⟨o', n', f1, f2, _, f3⟩, _⟩ := I.list hc
  cases r'
  refine ⟨its.toArray, _, ⟨o, e1, e2, n, e3⟩, ⟨o', f1, f2, n', f3⟩, ?_⟩
  have := r.length
  have h0 : 0 < xs.length := List.length_pos_iff.mpr hx
  simp only [List.size_toArray, List.length_nil, bne_iff_ne, ne_eq]
  omega
theorem op_neLn (hu : X.A.units + 64 < cLine) : OpR X (compareOp .NotEq) (rLn X.K true) := by
  intro pins s σ H x y v u Q I rx ry h
  obtain ⟨a, c, xs, rfl, rfl, ha, hc, hx, q⟩ := h
  obtain ⟨i1, i2, h1, h2, h3⟩ := ln_lists I ha hc hx
  cases rx; cases ry
  exact SeqAt.RcNeAt.lists_lengths h1 h2 h3 (by omega) _ _ _ _ ⟨.bl _, H, I, rfl, q⟩
theorem kNeL (hK : X.K = S.K) (hu : X.A.units + 64 < cLine) : OpR X (compareOp .NotEq) (fun x y H Q => rNeE S.K x y H Q ∨ rLn S.K true x y H Q) := (kNe hK hu).or (hK ▸ op_neLn hu)
theorem s_neL : OpS S (fun x y H Q => rNeE S.K x y H Q ∨ rLn S.K true x y H Q) neLD false .clean := by
  intro B g H j d1 d2 d v1 v2 Q ok h1 h2 e q
  unfold neLD at e
  split at e
  · cases e
    cases h1 with
    | lst e1 r1 =>
      cases h2 with
      | lst e2 r2 =>
        cases r2
        refine .inr ⟨_, _, _, rfl, rfl, SqL.of (ok.gh _ _ e1), SqL.of (ok.gh _ _ e2), fun z => ?_, q g _ H (Le.refl g) ok (.bl _)⟩
        rw [z] at r1; cases r1
  · exact .inl (s_ne B g H j _ _ d v1 v2 Q ok h1 h2 e q)
end
@[simp] theorem eqL_n {xs : List D} : eqLD (.lst xs) (.lst []) = some (.bl xs.isEmpty) := by
  cases xs with
  | nil => exact (show eqD (.lst []) (.lst []) = some (.bl true) from rfl)
  | cons x r => rfl
@[simp] theorem neL_n {xs : List D} : neLD (.lst xs) (.lst []) = some (.bl (!xs.isEmpty)) := by
  cases xs with
  | nil => exact (show neD (.lst []) (.lst []) = some (.bl false) from rfl)
  | cons x r => rfl
end Mp

namespace Mp
open PySem PySem.Spec L2
open PyProof.Rows hiding St
abbrev ZR (h : Heap) (z TI TO : Addr) (f0 f1 : Value) : Prop := h.get? z = some { cls := .type "zip", dict := none, data := .fields #[f0, f1, .bool false, .ref TI, .ref TO], slots := #[] }
def Fo (f : Value) : Prop := f = .none ∨ ∃ a : Nat, f = rawInt (a : Int)
section
variable {prog : Program} {w : World} {A : Around} {E : Value → Shared → Prop} {s : Shared}
/-! ### zip(a, b), a name as target -/
end
def ItzN (K : PySem.W.Frag) (a b : Addr) : It :=
  ⟨fun i H => ∃ (xs ys : List V) (x y : V), SqL K H a xs ∧ SqL K H b ys ∧ xs[i]? = some x ∧ ys[i]? = some y,
   fun i H v H' => ∃ T o x y, v = .ref T ∧ H T = none ∧ o.dict = none ∧ H' = upd H T (.frz o (.tup [x, y])) ∧ (∀ xs, SqL K H a xs → xs[i]? = some x) ∧ ∀ ys, SqL K H b ys → ys[i]? = some y,
   fun i H => ∃ xs ys : List V, SqL K H a xs ∧ SqL K H b ys ∧ (xs.length ≤ i ∨ ys.length ≤ i)⟩
def iZipN (K : PySem.W.Frag) (ta : TA) : TI := fun σ H R => ta σ H fun vs H1 => ∃ a b xs ys, vs = [.ref a, .ref b] ∧ SqL K H1 a xs ∧ SqL K H1 b ys ∧ R (ItzN K a b) H1
/-! ### enumerate(t), t a tuple -/
section
theorem en_new (l : Addr) (items : Array Value) : Meets (Builtin.«enumerate.__new__» ⟨[.type "enumerate", .ref l], []⟩) (fun _ R s => s.heap.IsTuple l items ∧
      R (.ok (.ret (.ref (s.heap.push { cls := .type "tuple_iterator", data := .fields #[.ref l, .int 0 0] }).objs.size))) { s with heap := (s.heap.push { cls := .type "tuple_iterator", data := .fields #[.ref l, .int 0 0] }).push { cls := .type "enumerate", data := .fields #[.none, .bool false, .ref s.heap.objs.size, rawInt 0, .none, .none] } }) :=
  .of_wp fun prog w A R s h => by
    obtain ⟨hp, g, d, tk, os⟩ := s
    obtain ⟨h1, h⟩ := h
    have hsub := sub_enumerate
    have q1 : ∀ {A' : Around} {E : Value → Shared → Prop} {Q : Value → Shared → Prop}, Q (.ref hp.objs.size) ⟨hp.push { cls := .type "tuple_iterator", data := .fields #[.ref l, .int 0 0] }, g, d, tk, os⟩ → wpAny (model prog w) A' (pyIter (.ref l)) Q E ⟨hp, g, d, tk, os⟩ := fun q => (begins_tuple l items).iter prog w _ _ ⟨hp, g, d, tk, os⟩ _ h1 q
    wp_walk using q1
    refine wpAny_stack_any fun st => wpAny_pure ?_
    split
    · rename_i c _ _ _ _ _
      cases (c == Value.type "enumerate") <;> (wp_walk using q1) <;> exact ⟨_, rfl, h⟩
    · wp_walk using q1
      exact ⟨_, rfl, h⟩
end
section
variable {prog : Program} {w : World} {A : Around} {E : Value → Shared → Prop} {s : Shared}
theorem call_enT {l : Addr} {items : Array Value} {Q : Value → Shared → Prop} (hL : s.heap.IsTuple l items) (h : ∀ h', IsEnum h' (s.heap.objs.size + 1) s.heap.objs.size 0 .none → h'.IsTupleIter s.heap.objs.size l 0 → (∀ b o, s.heap.get? b = some o → h'.get? b = some o) → Q (.ref (s.heap.objs.size + 1)) { s with heap := h' }) :
    wpAny (model prog w) A (call (.type "enumerate") [.ref l]) Q E s := by
  refine callType_new F.called_enumerate (by decide) (F.typeCall_enumerate_1 _) (F.newCall_enumerate_1 _) (fun obj => F.args_object_init_2 obj _) F.entry_enumerate_new (en_new l items) ⟨hL, ?_⟩
  have hz : (s.heap.push { cls := .type "tuple_iterator", data := .fields #[.ref l, .int 0 0] }).objs.size = s.heap.objs.size + 1 := Heap.size_push ..
  have he := Heap.get?_push_size (s.heap.push { cls := .type "tuple_iterator", data := .fields #[.ref l, .int 0 0] }) (o := { cls := .type "enumerate", data := .fields #[.none, .bool false, .ref s.heap.objs.size, rawInt 0, .none, .none] }) rfl
  show _ ∧ _
  rw [hz] at he ⊢
  exact ⟨⟨_, he, rfl⟩, h _ he ⟨_, Heap.get?_push_of_some _ (Heap.get?_push_size _ rfl), rfl, rfl⟩ fun b o x => Heap.get?_push_of_some _ (Heap.get?_push_of_some _ x)⟩
end
def IteT (K : PySem.W.Frag) (a : Addr) : It :=
  ⟨fun i H => ∃ (xs : List V) (x : V), SqT K H a xs ∧ xs[i]? = some x, fun i H v H' => ∃ T x, v = .ref T ∧ H T = none ∧ H' = upd H T (.tup [.int (i : Nat), x]) ∧ ∀ xs, SqT K H a xs → xs[i]? = some x, fun i H => ∃ xs : List V, SqT K H a xs ∧ xs.length = i⟩
theorem turn_enT {P : Program} {w : World} {K : PySem.W.Frag} {elts : List Expr} {kk : Nat} {tpos : Pos} (a e it : Addr) :
    Turn P w K (.Tuple elts kk tpos) (IteT K a) [e, it] e (fun i h => (∃ old, IsEnum h e it ((i : Nat) : Int) old) ∧ h.IsTupleIter it a i ∧ e ≠ it) where
  mem := by simp
  obj := fun i h ⟨⟨old, he⟩, ⟨o, ho, hc, hd⟩, _⟩ b hb => by
    have e' : b = e ∨ b = it := by simpa using hb
    rcases e' with z | z <;> rw [z]
    · exact ⟨_, he, fun v q => nomatch q⟩
    · exact ⟨o, ho, fun v q => by rw [hd] at q; cases q⟩
  keep := fun i h h' ⟨⟨old, he⟩, hi, hne⟩ k => ⟨⟨old, k e (by simp) _ he⟩, hi.at fun o q => k it (by simp) o q, hne⟩
  item := by
    intro X hP hw hK hc i pins s σ H E I hf st hg
    subst hP hw hK
    obtain ⟨⟨old, he⟩, hit, hne⟩ := st
    obtain ⟨xs, x, hq, hx⟩ := hg
    obtain ⟨its, rv, p, hz⟩ := I.tuple hq
    obtain ⟨u, hu, ru⟩ := rv.get hx
    have pt : s.heap.IsTuple a its.toArray := p
    obtain ⟨oa, ga, ca, na, da⟩ := pt
    obtain ⟨oi, gi, ci, di⟩ := hit
    have nae : a ≠ e := fun z => by rw [z] at ga; rw [he] at ga; cases ga; simp at ca
    have nai : a ≠ it := fun z => by rw [z, gi] at ga; cases ga; rw [ci] at ca; simp at ca
    have hel : e < s.heap.objs.size := Heap.lt_size he
    have hil : it < s.heap.objs.size := Heap.lt_size gi
    have hlt : i < its.toArray.size := by have := (List.getElem?_eq_some_iff.mp hu).1; simpa using this
    refine wpAny_pyNext_enum_itemD (Draws.tuple (A := X.A.in1) (I.ok.hd hc) it a nai its.toArray) he ⟨⟨oi, gi, ci, di⟩, ⟨oa, ga, ca, na, da⟩⟩ hlt hne (by simp [hne, Ne.symm nae]) fun u' h' tk hP' ho st' hT hsz hk => ?_
    have eu : u' = u := by
      have z : its.toArray[i]? = some u := by simpa using hu
      rw [z] at hP'; cases hP'; rfl
    subst eu
    refine ⟨_, rfl, wpAny_letOwnedTupleGo_enum (s := { s with heap := h', toks := tk + 1 }) ho fun h'' he' sb => ?_⟩
    have hT2 : h''.get? s.heap.objs.size = some { cls := .type "tuple", data := .seq #[.int i tk, u'] } := (sb.2 _ (Nat.ne_of_gt hel)).trans hT
    have new : ObjOk X.prog X.w (upd H s.heap.objs.size (.tup [.int (i : Nat), x])) h'' s.heap.objs.size (.tup [.int (i : Nat), x]) := ⟨by show 2 ≤ sizeLine; decide, [.int i tk, u'], .cons ⟨_, rfl⟩ (.cons ru .nil), ⟨_, hT2, rfl, _, rfl⟩⟩
    have I1 : Inv X pins σ (upd H s.heap.objs.size (.tup [.int (i : Nat), x])) { s with heap := h'', toks := tk + 1 } := I.turnedNew (ch := [e, it]) (fun b ob hb q => (sb.2 b (fun z => hb (by simp [z]))).trans (hk b ob (fun z => hb (by simp [z])) (fun z => hb (by simp [z])) q)) hf (Nat.le_refl _) new
    refine ⟨.ref s.heap.objs.size, _, I1, rfl, ⟨_, x, rfl, I.hok.fresh (Nat.le_refl _), rfl, fun ys hy => ?_⟩, ⟨⟨u', ?_⟩, st'.1.at fun o q => (sb.2 it (Ne.symm hne)).trans q, hne⟩, fun b hb => ?_⟩
    · rw [I.tuple_inj hy hq]; exact hx
    · have e1 : ((i + 1 : Nat) : Int) = (i : Int) + 1 := by omega
      rw [e1]; exact he'
    · have hb' : b < s.heap.objs.size := by
        have e' : b = e ∨ b = it := by simpa using hb
        rcases e' with z | z <;> rw [z]
        · exact hel
        · exact hil
      rw [upd_ne (Nat.ne_of_lt hb')]
      exact (hf b hb).1
  done := by
    intro X hP hw hK hc i pins s σ H E I hf st hg
    subst hP hw hK
    obtain ⟨⟨old, he⟩, hit, hne⟩ := st
    obtain ⟨xs, hq, hx⟩ := hg
    obtain ⟨its, rv, p, hz⟩ := I.tuple hq
    obtain ⟨f0, f1, f2, f3, f4, f5⟩ := hf it (by simp)
    have pt : s.heap.IsTuple a its.toArray := p
    obtain ⟨oa, ga, ca, na, da⟩ := pt
    obtain ⟨oi, gi, ci, di⟩ := hit
    have nai : a ≠ it := fun z => by rw [z, gi] at ga; cases ga; rw [ci] at ca; simp at ca
    have hn : its.toArray.size = i := by rw [List.size_toArray, ← rv.length, hx]
    exact wpAny_pyNext_enum_endD (Draws.tuple (A := X.A.in1) (I.ok.hd hc) it a nai its.toArray) he (by rw [hn]; exact ⟨⟨oi, gi, ci, di⟩, ⟨oa, ga, ca, na, da⟩⟩) fun h' eb => ⟨rfl, I.turned (t' := s.toks) (fun b o hb q => eb b o hb q) f0 f1 f3 f4 f5⟩
  self := fun A i s Q E ⟨⟨_, he⟩, _⟩ h => wpAny_pyIter_enum he h
variable {J : Type}
def iZpN (fa fb : Ev J) (m : Sd) (j : J) (P : List D → J → Prop) (E : XP J) : Prop := fa m j (fun x j1 => fb m j1 (fun y j2 => ∃ xs ys, x = .lst xs ∧ y = .lst ys ∧ P (zipD xs ys) j2) E) E
instance {fa fb : Ev J} [ha : MoE fa] [hb : MoE fb] : MoA (iZpN fa fb) := ⟨fun h q x => ha.mo h (fun _ _ h1 => hb.mo h1 (fun _ _ ⟨xs, ys, e1, e2, p⟩ => ⟨xs, ys, e1, e2, q _ _ p⟩) x) x⟩
section
variable {S : Js J} {B : Bs} {M : Nat → Bool} {W : WX} {X : Cx} {a b : Expr} {pos p tpos : Pos} {fa fb : Ev J} {nm : Str}
variable {m : Sd} {j : J} {PA : List D → J → Prop} {E : XP J}
@[simp ↓] theorem a_izn : iZpN fa fb m j PA E = fa m j (fun x j1 => fb m j1 (fun y j2 => ∃ xs ys, x = .lst xs ∧ y = .lst ys ∧ PA (zipD xs ys) j2) E) E := rfl
end
/-! ### enumerate(x), x a list or a tuple -/
def iEnB (K : PySem.W.Frag) (ta : TA) : TI := fun σ H R => ta σ H fun vs H1 => ∃ a xs, vs = [.ref a] ∧ ((SqL K H1 a xs ∧ R (Ite K a) H1) ∨ (SqT K H1 a xs ∧ R (IteT K a) H1))
theorem pi_enB {X : Cx} {e : Expr} {ta : TA} {p pos tpos : Pos} {elts : List Expr} {kk : Nat} (hg : Gl X "enumerate") (hm : X.mg "enumerate" = none) (ha : PA X [e] ta) (hs : starEach [e] X.env = [(false, eval e X.env)] := by rfl) :
    PI X (.Tuple elts kk tpos) (.Call (.Name "enumerate" p) [e] [] pos) (iEnB X.K ta) := by
  refine ⟨fun pins s σ H R I h => Call_ (ld_blt I hg hm boot_enumerate (PyProof.Rows.callWith_type1 (thn (ha.run pos pins s σ H _ I h) fun us s1 ⟨vs, H1, I1, r1, q1⟩ => ?_) hs rfl))⟩
  obtain ⟨a, xs, rfl, q1⟩ := q1
  have fp : ∀ b ∈ [s1.heap.objs.size + 1, s1.heap.objs.size], FpOk X pins H1 b := fun b hb => by
    have hle : s1.heap.objs.size ≤ b := by
      have e' : b = s1.heap.objs.size + 1 ∨ b = s1.heap.objs.size := by simpa using hb
      rcases e' with z | z <;> rw [z] <;> first | exact Nat.le_add_right _ _ | exact Nat.le_refl _
    exact I1.fpOk hle (I1.hok.fresh hle)
  cases r1 with
  | cons r rr =>
    cases rr; cases r
    rcases q1 with ⟨hq, q⟩ | ⟨hq, q⟩
    · obtain ⟨its, rv, p', hz⟩ := I1.list hq
      refine call_enumerate_list p'.isList fun h' he hit hsz hk => wpAny_pyIter_enum he ?_
      exact ⟨s1.heap.objs.size + 1, [s1.heap.objs.size + 1, s1.heap.objs.size], _, _, H1, rfl, I1.kept (t' := s1.toks) hk, turn_enum a (s1.heap.objs.size + 1) s1.heap.objs.size, ⟨⟨.none, he⟩, hit, Nat.succ_ne_self _⟩, fp, q⟩
    · obtain ⟨its, rv, p', hz⟩ := I1.tuple hq
      refine call_enT (show s1.heap.IsTuple a its.toArray from p') fun h' he hit hk => wpAny_pyIter_enum he ?_
      exact ⟨s1.heap.objs.size + 1, [s1.heap.objs.size + 1, s1.heap.objs.size], _, _, H1, rfl, I1.kept (t' := s1.toks) hk, turn_enT a (s1.heap.objs.size + 1) s1.heap.objs.size, ⟨⟨.none, he⟩, hit, Nat.succ_ne_self _⟩, fp, q⟩
def enO : D → Option (List D)
  | .lst xs => some (enumD xs)
  | .tup xs => some (enumD xs)
  | _ => none
def iEnmB (f : Ev J) (m : Sd) (j : J) (P : List D → J → Prop) (E : XP J) : Prop := f m j (fun d j1 => ∃ zs, enO d = some zs ∧ P zs j1) E
instance {f : Ev J} [ha : MoE f] : MoA (iEnmB f) := ⟨fun h q x => ha.mo h (fun _ _ ⟨b, e, p⟩ => ⟨b, e, q _ _ p⟩) x⟩
section
variable {S : Js J} {B : Bs} {M : Nat → Bool} {W : WX} {X : Cx} {a : Expr} {pos p tpos : Pos} {fa : Ev J} {elts : List Expr} {kk : Nat}
theorem i_enB (hK : X.K = S.K) (hm : X.mg "enumerate" = none) (ha : PE X a (rdE S B M W .clean fa)) (hg : Gl X "enumerate" := by rfl) (hs : starEach [a] X.env = [(false, eval a X.env)] := by rfl) :
    PI X (.Tuple elts kk tpos) (.Call (.Name "enumerate" p) [a] [] pos) (rdI S B M W true true (iEnmB fa)) :=
  PI.imp (pi_enB hg hm (pa_cons ha pa_nil hs) hs) fun r H R ⟨g, m, j, P, E, ok, hf, q, xo⟩ => by
    refine ⟨g, m, j, _, E, ok, hf, fun d j1 g1 v H1 ⟨zs, ed, p⟩ l1 ok1 w => ?_, xo⟩
    unfold enO at ed
    split at ed
    · cases ed
      obtain ⟨a, vs, rfl, ha, ra⟩ := lst_of w
      refine ⟨a, vs, rfl, .inl ⟨.of ((ok1.b.fg.trans ok1.b.gh) _ _ ha), q _ _ g1 H1 _ p l1 ok1 ?_⟩⟩
      unfold WalkD
      rw [enumD_length, ra.length]
      refine (walk_enum (K := X.K) (a := a) (xs := vs)).mono (fun H s => .of (s _ _ ha)) fun i H x H' hi _ y => ?_
      obtain ⟨T, x1, y1, e1, e2, e3, e4, e5⟩ := y
      obtain ⟨d, h2, h3⟩ := ra.get' e5
      cases e4
      exact ⟨_, enumD_get h2, .inr (.inl ⟨rfl, T, _, _, e1, e2, e3, rfl, .cons (.int _) (.cons h3 .nil)⟩)⟩
    · cases ed
      obtain ⟨a, vs, rfl, ha, ra⟩ := tup_of w
      have sq : ∀ H, Same (hp true g1) H → SqT X.K H a vs := fun H s => by rw [hK]; exact sqT_same s ha.t
      refine ⟨a, vs, rfl, .inr ⟨sq _ (ok1.b.fg.trans ok1.b.gh), q _ _ g1 H1 _ p l1 ok1 ?_⟩⟩
      unfold WalkD
      rw [enumD_length, ra.length]
      refine ⟨fun i H hi s => ⟨vs, vs[i], sq H s, by simp [hi]⟩, fun H s => ⟨vs, sq H s, rfl⟩, fun i H x H' hi s y => ?_⟩
      obtain ⟨T, x1, e1, e2, e3, e4⟩ := y
      obtain ⟨d, h2, h3⟩ := ra.get' (e4 vs (sq H s))
      exact ⟨_, enumD_get h2, .inr (.inl ⟨rfl, T, _, _, e1, e2, e3, rfl, .cons (.int _) (.cons h3 .nil)⟩)⟩
    · cases ed
variable {m : Sd} {j : J} {PA : List D → J → Prop} {E : XP J}
@[simp ↓] theorem a_ienb : iEnmB fa m j PA E = fa m j (fun d j1 => ∃ zs, enO d = some zs ∧ PA zs j1) E := rfl
@[simp] theorem en_l {xs : List D} : enO (.lst xs) = some (enumD xs) := rfl
@[simp] theorem en_t {xs : List D} : enO (.tup xs) = some (enumD xs) := rfl
end
end Mp

/-! NV: a zip of any two iterators, gathered into a list. -/
namespace Mp
open PySem PySem.Spec L2
open PyProof.Rows hiding St
section
variable {prog : Program} {w : World} {A : Around} {E : Value → Shared → Prop} {s : Shared}
end
section
variable {prog : Program} {w : World} {A : Around} {E : Value → Shared → Prop} {s : Shared} {z TI TO i1 i2 : Addr} {fp1 fp2 : List Addr} {n1 n2 i : Nat} {P1 P2 : Nat → Value → Prop} {St1 St2 : Nat → Heap → Prop} {a b f0 f1 : Value}
def ZSt (z TI TO i1 i2 : Addr) (St1 St2 : Nat → Heap → Prop) (i : Nat) (h : Heap) : Prop := (∃ f0 f1, Fo f0 ∧ ZR h z TI TO f0 f1) ∧ IsPair h TI (.ref i1) (.ref i2) ∧ (∃ x y, IsPair h TO x y) ∧ St1 i h ∧ St2 i h
theorem ZSt.keep {h h' : Heap} (D1 : Draws prog w A i1 fp1 n1 P1 St1) (D2 : Draws prog w A i2 fp2 n2 P2 St2) (st : ZSt z TI TO i1 i2 St1 St2 i h) (k : ∀ c o, (c = z ∨ c = TI ∨ c = TO ∨ c ∈ fp1 ∨ c ∈ fp2) → h.get? c = some o → h'.get? c = some o) : ZSt z TI TO i1 i2 St1 St2 i h' := by
  obtain ⟨⟨f0, f1, hf, hz⟩, hTI, ⟨a, b, hTO⟩, st1, st2⟩ := st
  exact ⟨⟨f0, f1, hf, k _ _ (.inl rfl) hz⟩, k _ _ (.inr (.inl rfl)) hTI, ⟨a, b, k _ _ (.inr (.inr (.inl rfl))) hTO⟩, D1.frame _ _ _ st1 fun b hb o e => k b o (.inr (.inr (.inr (.inl hb)))) e, D2.frame _ _ _ st2 fun b hb o e => k b o (.inr (.inr (.inr (.inr hb)))) e⟩
end
end Mp

/-! NW: sorted(zip(..)), tuple(zip(..)). -/
namespace Mp
open PySem PySem.Spec L2
open PyProof.Rows hiding St
section
variable {prog : Program} {w : World} {A : Around} {E : Value → Shared → Prop} {s : Shared} {r : Addr}
end
structure MadeZ (P1 P2 : Nat → Value → Prop) (lo : Addr) (h : Heap) (as : List Addr) : Prop where
  rise : as.Pairwise (· < ·)
  above : ∀ a ∈ as, lo < a
  pairs : ∀ (j : Nat) (a : Addr), as[j]? = some a → ∃ x y, P1 j x ∧ P2 j y ∧ IsPair h a x y
section
variable {prog : Program} {w : World} {A : Around} {E : Value → Shared → Prop} {s : Shared} {z TI TO i1 i2 : Addr} {fp1 fp2 : List Addr} {n1 n2 : Nat} {P1 P2 : Nat → Value → Prop} {St1 St2 : Nat → Heap → Prop}
theorem MadeZ.there {lo : Addr} {h : Heap} {as : List Addr} (g : MadeZ P1 P2 lo h as) {a : Addr} (ha : a ∈ as) : a < h.objs.size := by
  obtain ⟨j, hj⟩ := List.mem_iff_getElem?.mp ha
  obtain ⟨_, _, _, _, e⟩ := g.pairs j a hj
  exact Heap.lt_size e
end
def IntP (ns : List Int) (j : Nat) (v : Value) : Prop := ∃ n t, ns[j]? = some n ∧ v = .int n t
def pk (h : Heap) (v : Value) : Int × Int := match v with
  | .ref a => match h.get? a with
    | some o => match o.data with
      | .seq xs _ => match xs.toList with
        | [.int x _, .int y _] => (x, y)
        | _ => (0, 0)
      | _ => (0, 0)
    | none => (0, 0)
  | _ => (0, 0)
def rfA : Value → Addr
  | .ref a => a
  | _ => 0
section
variable {prog : Program} {w : World} {A : Around} {E : Value → Shared → Prop} {s : Shared} {z TI TO i1 i2 : Addr} {fp1 fp2 : List Addr} {St1 St2 : Nat → Heap → Prop} {ns ms : List Int}
end
/-! ### by values -/
theorem Draws.mono {prog : Program} {w : World} {A : Around} {it : Addr} {fp : List Addr} {n n' : Nat} {P P' : Nat → Value → Prop} {St : Nat → Heap → Prop} (D : Draws prog w A it fp n P St) (e : n = n') (h : ∀ i v, P i v → P' i v) : Draws prog w A it fp n' P' St where
  live := D.live
  frame := D.frame
  item := fun i s Q E hi st hQ => D.item i s Q E (by omega) st fun x h' tk p => hQ x h' tk (h i x p)
  done := fun s Q E st hE => D.done s Q E (by rw [e]; exact st) hE
def NewTs : Hp → List (Int × Int) → (Hp → List Addr → Prop) → Prop
  | H, [], k => k H []
  | H, p :: ps, k => ∀ (a : Addr) (o : Obj), H a = none → o.dict = none → NewTs (upd H a (.frz o (.tup [.int p.1, .int p.2]))) ps fun H' as => k H' (a :: as)
def PZp (X : Cx) (e : Expr) (t : St → Hp → (List Int → List Int → Hp → Prop) → Prop) : Prop :=
  ∀ (pins : List (Addr × Obj)) (s : Shared) (σ : St) (H : Hp) (Q : List Int → List Int → Hp → Prop), Inv X pins σ H s → t σ H Q →
    wpAny (model X.prog X.w) X.A (eval e X.env) (fun x s' => ∃ (z TI TO i1 i2 : Addr) (fp1 fp2 : List Addr) (St1 St2 : Nat → Heap → Prop) (ns ms : List Int) (H' : Hp), x = .ref z ∧ ZipSep2 z TI TO i1 i2 fp1 fp2 ∧
      (∀ A : Around, A.handled = none → Draws X.prog X.w A i1 fp1 ns.length (IntP ns) St1) ∧ (∀ A : Around, A.handled = none → Draws X.prog X.w A i2 fp2 ms.length (IntP ms) St2) ∧ (∀ c ∈ fp1, c < s'.heap.objs.size) ∧ (∀ c ∈ fp2, c < s'.heap.objs.size) ∧
      ZSt z TI TO i1 i2 St1 St2 0 s'.heap ∧ (∀ c ∈ [z, TO, i1, i2], FpOk X pins H' c) ∧ Inv X pins σ H' s' ∧ ns.length ≤ sizeLine ∧ Q ns ms H') X.xe s
def tSortZ (t : St → Hp → (List Int → List Int → Hp → Prop) → Prop) : TE := fun σ H Q => t σ H fun ns ms H1 => ∀ ps : List (Int × Int), ps.Perm (ns.zip ms) → ps.Pairwise (fun p q => SrtO.lexB q p = false) →
  NewTs H1 ps fun H2 as => ∀ l, H2 l = none → Q (.ref l) (upd H2 l (.lst (as.map V.ref)))
section
variable {X : Cx} {e : Expr} {te : St → Hp → (List Int → List Int → Hp → Prop) → Prop}
end
/-! ### zip(l, range(n)) is made -/
abbrev zrH1 (h : Heap) (l1 : Addr) : Heap := h.push { cls := .type "list_iterator", data := .fields #[.ref l1, .int 0 0] }
abbrev zrH2 (h : Heap) (l1 : Addr) (n : Int) : Heap := (zrH1 h l1).push { cls := .type "range_iterator", data := .fields #[rawInt 0, rawInt (Builtin.Range.rangeSize 0 n 1), rawInt 1] }
abbrev zrH3 (h : Heap) (l1 : Addr) (n : Int) : Heap := (zrH2 h l1 n).push { cls := .type "tuple", data := .seq #[.ref h.objs.size, .ref (zrH1 h l1).objs.size] }
abbrev zrH4 (h : Heap) (l1 : Addr) (n : Int) : Heap := (zrH3 h l1 n).push { cls := .type "tuple", data := .seq #[.none, .none] }
abbrev zrH5 (h : Heap) (l1 : Addr) (n : Int) : Heap := (zrH4 h l1 n).push { cls := .type "zip", data := .fields #[.none, .bool false, .bool false, .ref (zrH2 h l1 n).objs.size, .ref (zrH3 h l1 n).objs.size] }
section
variable {prog : Program} {w : World} {A : Around} {E : Value → Shared → Prop} {s : Shared}
end
def rgI (n : Nat) : List Int := (List.range n).map fun i : Nat => (i : Int)
section
variable {X : Cx} {a b : Expr} {ta tb : TE} {tr : St → Hp → (Int → Int → Hp → Prop) → Prop}
def tZll (K : PySem.W.Frag) (ta tb : TE) : St → Hp → (List Int → List Int → Hp → Prop) → Prop := fun σ H Q => ta σ H fun x H1 => tb σ H1 fun y H2 => ∃ p q ns ms, x = .ref p ∧ y = .ref q ∧ SqL K H2 p (ns.map V.int) ∧ SqL K H2 q (ms.map V.int) ∧ Q ns ms H2
def tZlr (K : PySem.W.Frag) (ta : TE) (tr : St → Hp → (Int → Int → Hp → Prop) → Prop) : St → Hp → (List Int → List Int → Hp → Prop) → Prop := fun σ H Q => ta σ H fun x H1 => tr σ H1 fun lo hi H2 => ∃ p ns, x = .ref p ∧ lo = 0 ∧ RgOk 0 hi ∧ SqL K H2 p (ns.map V.int) ∧ Q ns (rgI hi.toNat) H2
end
end Mp

/-! NH: sorted(zip(..)) by data. -/
namespace Mp
open PySem PySem.Spec L2
open PyProof.Rows hiding St
/-! ### by data -/
def lexle (p q : Int × Int) : Bool := !SrtO.lexB q p
def psort (l : List (Int × Int)) : List (Int × Int) := l.mergeSort lexle
def prD (p : Int × Int) : D := .tup [.int p.1, .int p.2]
def szO : D → List D → Option (List D)
  | .lst xs, ys => match ints? xs, ints? ys with
    | some ns, some ms => some ((psort (ns.zip ms)).map prD)
    | _, _ => none
  | _, _ => none
variable {J : Type}
def iLs (f : Ev J) (m : Sd) (j : J) (P : List D → J → Prop) (E : XP J) : Prop := f m j (fun d j1 => ∃ ys, d = .lst ys ∧ P ys j1) E
def eSZ (fa : Ev J) (ib : Iv J) (m : Sd) (j : J) (P : D → J → Prop) (E : XP J) : Prop := fa m j (fun x j1 => ib m j1 (fun ys j2 => ys.length ≤ LINE ∧ ∃ zs, szO x ys = some zs ∧ P (.lst zs) j2) E) E
instance {f : Ev J} [ha : MoE f] : MoA (iLs f) := ⟨fun h q x => ha.mo h (fun _ _ ⟨b, e, p⟩ => ⟨b, e, q _ _ p⟩) x⟩
instance {fa : Ev J} {ib : Iv J} [ha : MoE fa] [hb : MoA ib] : MoE (eSZ fa ib) := ⟨fun h q x => ha.mo h (fun _ _ h1 => hb.mo h1 (fun _ _ ⟨l, zs, e, p⟩ => ⟨l, zs, e, q _ _ p⟩) x) x⟩
section
variable {S : Js J} {B : Bs} {M : Nat → Bool} {W : WX} {X : Cx} {a b : Expr} {pos p tpos q0 q1 p2 pos2 : Pos} {fa fb : Ev J} {ib : Iv J}
variable {m : Sd} {j : J} {PE' : D → J → Prop} {PA : List D → J → Prop} {E : XP J}
@[simp ↓] theorem a_ils : iLs fb m j PA E = fb m j (fun d j1 => ∃ ys, d = .lst ys ∧ PA ys j1) E := rfl
@[simp ↓] theorem a_esz : eSZ fa ib m j PE' E = fa m j (fun x j1 => ib m j1 (fun ys j2 => ys.length ≤ LINE ∧ ∃ zs, szO x ys = some zs ∧ PE' (.lst zs) j2) E) E := rfl
end
@[simp] theorem sz_l {ns ms : List Int} : szO (.lst (ns.map D.int)) (ms.map D.int) = some ((psort (ns.zip ms)).map prD) := by
  unfold szO
  simp only [ints?_map]
/-! ### len(set(x)), x a list or a tuple -/
def lenSetB : D → Option D
  | .lst xs => slI xs
  | .tup xs => if xs.length < 64 then slI xs else none
  | _ => none
def tLenSetB (K : PySem.W.Frag) (ta : TE) : TE := fun σ H Q => ta σ H fun x H1 => ∃ (l : Addr) (ns : List Int), x = V.ref l ∧ ((SqL K H1 l (ns.map V.int) ∧ ns.length < 1000) ∨ (SqT K H1 l (ns.map V.int) ∧ ns.length < 64)) ∧ Q (.int (ssort ns).length) H1
section
variable {X : Cx} {a : Expr} {ta : TE} {p p2 q pos : Pos}
end
section
variable {S : Js J} {B : Bs} {M : Nat → Bool} {W : WX} {X : Cx} {a : Expr} {fa : Ev J} {p p2 q pos : Pos}
end
end Mp

/-! NI: a for over an owned list (or enumerate of it): the list is frozen, the slot forgotten. -/
namespace Mp
open PySem PySem.Spec L2
open PyProof.Rows hiding St
variable {J : Type}
abbrev Jv (J : Type) := Sd → J → (List D → Sd → J → Prop) → XP J → Prop
class MoJ (f : Jv J) : Prop where
  mo : ∀ {m : Sd} {j : J} {P P' : List D → Sd → J → Prop} {E E' : XP J}, f m j P E → (∀ d m' j', P d m' j' → P' d m' j') → (∀ e m' j', E e m' j' → E' e m' j') → f m j P' E'
def rdJ (S : Js J) (B : Bs) (M : Nat → Bool) (W : WX) (w : Bool) (f : Jv J) : TI := fun r H R => ∃ g m j P E, Ok S B g M r H m j ∧ f m j P E ∧
  (∀ ds m' j' g' H' Jt, P ds m' j' → Same g.F g'.F → Ok S B g' M r H' m' j' → WalkD S Jt ds true w g' → R Jt H') ∧ XOut S B M W g E
def sForJ (fj : Jv J) (γ : Gv) (fb : Sv J) (m : Sd) (j : J) (P : Fl → Sd → J → Prop) (E : XP J) : Prop := fj m j (fun ds m1 j1 => forW γ fb ds m1 j1 P E) E
instance {fj : Jv J} {γ : Gv} {fb : Sv J} [hi : MoJ fj] [hb : MoS fb] : MoS (sForJ fj γ fb) := ⟨fun h q x => hi.mo h (fun _ _ _ p => forW_mo p q x) x⟩
def jSeq (i : Nat) (m : Sd) (j : J) (P : List D → Sd → J → Prop) (E : XP J) : Prop := ∃ ds, m[i]? = some (some (.lst ds)) ∧ P ds (m.set i none) j
def jEnm (i : Nat) (m : Sd) (j : J) (P : List D → Sd → J → Prop) (E : XP J) : Prop := ∃ ds, m[i]? = some (some (.lst ds)) ∧ P (enumD ds) (m.set i none) j
instance {i : Nat} : MoJ (J := J) (jSeq i) := ⟨fun ⟨ds, e, p⟩ q _ => ⟨ds, e, q _ _ _ p⟩⟩
instance {i : Nat} : MoJ (J := J) (jEnm i) := ⟨fun ⟨ds, e, p⟩ q _ => ⟨ds, e, q _ _ _ p⟩⟩
section
variable {S : Js J} {B : Bs} {M : Nat → Bool} {W : WX} {X : Cx} {tg iter : Expr} {body : List Stmt} {pos p : Pos} {fb : Sv J} {fj : Jv J} {γ : Gv} {ks : List Nat} {w : Bool} {g : Gh} {r : St} {H : Hp} {m : Sd} {j : J} {i : Nat} {ds : List D} {x : Str}
variable {PS' : Fl → Sd → J → Prop} {E : XP J}
@[simp ↓] theorem a_jseq {P : List D → Sd → J → Prop} : jSeq i m j P E = ∃ ds, m[i]? = some (some (.lst ds)) ∧ P ds (m.set i none) j := rfl
@[simp ↓] theorem a_jenm {P : List D → Sd → J → Prop} : jEnm i m j P E = ∃ ds, m[i]? = some (some (.lst ds)) ∧ P (enumD ds) (m.set i none) j := rfl
@[simp ↓] theorem a_forJ : sForJ fj γ fb m j PS' E = fj m j (fun ds m1 j1 => WL γ fb ds m1 j1 PS' E) E := rfl
end
end Mp

/-! O1: an object while it is made (its state is the closures' state); the object lent as a frozen one while an expression reads it. -/
namespace Mp
open PySem PySem.Spec L2
open PyProof.Rows hiding St
variable {J J' : Type}

/-- an attribute: a value that stays, or a list that the object alone has, at b -/
inductive Fld | val (d : D) | own (b : Addr) (xs : List D)
def Fld.flat : Fld → D
  | .val d => d
  | .own _ xs => .lst xs
structure Ob where
  ad : Addr
  c : Nat
  fs : List (Str × Fld)
def flatF : List (Str × Fld) → List (Str × D)
  | [] => []
  | (k, f) :: r => (k, f.flat) :: flatF r
def Ob.flat (o : Ob) : D := .ins o.c (flatF o.fs)
def ownsF : List (Str × Fld) → List Addr
  | [] => []
  | (_, .val _) :: r => ownsF r
  | (_, .own b _) :: r => b :: ownsF r
def putFld (k : Str) (f : Fld) : List (Str × Fld) → List (Str × Fld)
  | [] => [(k, f)]
  | (g, x) :: r => if g = k then (g, f) :: r else (g, x) :: putFld k f r
def setL (k : Str) (ys : List D) : List (Str × Fld) → List (Str × Fld)
  | [] => []
  | (g, x) :: r => if g = k then (g, match x with | .own b _ => .own b ys | .val d => .val d) :: r else (g, x) :: setL k ys r
def getF (k : Str) : List (Str × Fld) → Option Fld
  | [] => none
  | (g, x) :: r => if g = k then some x else getF k r
def Ob.put (o : Ob) (k : Str) (f : Fld) : Ob := ⟨o.ad, o.c, putFld k f o.fs⟩
def Ob.setL (o : Ob) (k : Str) (ys : List D) : Ob := ⟨o.ad, o.c, Mp.setL k ys o.fs⟩

/-! ### the same data under another source -/
mutual
theorem Rp.cv {S : Js J} {S' : Js J'} {F : Hp} (hK : S.K = S'.K) (hR : S.R = S'.R) (hc : S.cl = S'.cl) (hx : S.xc = S'.xc := by rfl) (hf : S.xf = S'.xf := by rfl) : ∀ {d : D} {v : V}, Rp S F d v → Rp S' F d v
  | _, _, .non => .non
  | _, _, .bl b => .bl b
  | _, _, .int i => .int i
  | _, _, .str x => .str x
  | _, _, .tup h t => .tup (hK ▸ h) (RpL.cv hK hR hc hx hf t)
  | _, _, .lst h t => .lst h (RpL.cv hK hR hc hx hf t)
  | _, _, .dct h l t => .dct h l (RpL.cv hK hR hc hx hf t)
  | _, _, .jar => hR ▸ .jar
  | _, _, .obj a => .obj a
  | _, _, .ins h l t => .ins (hc ▸ h) l (RpL.cv hK hR hc hx hf t)
  | _, _, .dtp h l t => .dtp h l (RpL.cv hK hR hc hx hf t)
  | _, _, .exc0 h => .exc0 (hx ▸ h)
  | _, _, .exc1 h h2 t => .exc1 (hx ▸ h) (hf ▸ h2) (Rp.cv hK hR hc hx hf t)
theorem RpL.cv {S : Js J} {S' : Js J'} {F : Hp} (hK : S.K = S'.K) (hR : S.R = S'.R) (hc : S.cl = S'.cl) (hx : S.xc = S'.xc := by rfl) (hf : S.xf = S'.xf := by rfl) : ∀ {ds : List D} {vs : List V}, RpL S F ds vs → RpL S' F ds vs
  | _, _, .nil => .nil
  | _, _, .cons h t => .cons (Rp.cv hK hR hc hx hf h) (RpL.cv hK hR hc hx hf t)
end

/-! ### how it lies -/
inductive FldR (S : Js J) (F H : Hp) (A : Addr → Prop) : Fld → V → Prop
  | val {d : D} {v : V} : Rp S F d v → FldR S F H A (.val d) v
  | own {b : Addr} {xs : List D} {vs : List V} : H b = some (.lst vs) → RpL S F xs vs → A b → FldR S F H A (.own b xs) (.ref b)
inductive FldsR (S : Js J) (F H : Hp) (A : Addr → Prop) : List (Str × Fld) → List (Str × V) → Prop
  | nil : FldsR S F H A [] []
  | cons {k : Str} {f : Fld} {v : V} {fs : List (Str × Fld)} {kvs : List (Str × V)} : FldR S F H A f v → FldsR S F H A fs kvs → FldsR S F H A ((k, f) :: fs) ((k, v) :: kvs)
structure ObR (S : Js J) (o : Ob) (F : Hp) (A : Addr → Prop) (H : Hp) : Prop where
  ex : ∃ dx kvs, H o.ad = some (.ins (S.cl o.c) dx kvs) ∧ H dx = some (.own o.ad) ∧ A dx ∧ FldsR S F H A o.fs kvs
  at_ : A o.ad
  nd : (ownsF o.fs).Nodup
  dm : ∀ b, A b → H b ≠ none
section
variable {S : Js J} {F F' H H' : Hp} {A : Addr → Prop} {o : Ob} {fs : List (Str × Fld)} {kvs : List (Str × V)} {k : Str} {f : Fld}
theorem FldR.mono {v : V} (h : FldR S F H A f v) (s : Same F F') (q : ∀ b, A b → H' b = H b) : FldR S F' H' A f v := by
  cases h with
  | val r => exact .val (r.mono s)
  | own e r a => exact .own ((q _ a).trans e) (r.mono s) a
theorem FldsR.mono (s : Same F F') (q : ∀ b, A b → H' b = H b) : ∀ {fs : List (Str × Fld)} {kvs : List (Str × V)}, FldsR S F H A fs kvs → FldsR S F' H' A fs kvs
  | _, _, .nil => .nil
  | _, _, .cons h t => .cons (h.mono s q) (t.mono s q)
theorem ObR.frame (h : ObR S o F A H) (s : Same F F') (q : ∀ b, A b → H' b = H b) : ObR S o F' A H' := by
  obtain ⟨⟨dx, kvs, e1, e2, e3, e4⟩, h2, h3, h4⟩ := h
  exact ⟨⟨dx, kvs, (q _ h2).trans e1, (q _ e3).trans e2, e3, e4.mono s q⟩, h2, h3, fun b hb => by rw [q b hb]; exact h4 b hb⟩
theorem FldsR.get : ∀ {fs : List (Str × Fld)} {kvs : List (Str × V)}, FldsR S F H A fs kvs → getF k fs = some f → ∃ v, kvs.lookup k = some v ∧ FldR S F H A f v
  | _, _, .nil, e => by cases e
  | _, _, .cons (k := g) (v := v) (kvs := kvs) h t, e => by
    unfold getF at e
    by_cases c : g = k
    · rw [if_pos c] at e
      cases e
      subst c
      exact ⟨v, by simp [List.lookup], h⟩
    · rw [if_neg c] at e
      obtain ⟨v', e1, r⟩ := t.get e
      exact ⟨v', by rw [List.lookup_cons, show (k == g) = false from beq_eq_false_iff_ne.mpr (Ne.symm c)]; exact e1, r⟩
theorem FldsR.len : ∀ {fs : List (Str × Fld)} {kvs : List (Str × V)}, FldsR S F H A fs kvs → fs.length = kvs.length
  | _, _, .nil => rfl
  | _, _, .cons h t => by rw [List.length_cons, List.length_cons, t.len]
theorem FldsR.put {v : V} (hf : FldR S F H A f v) : ∀ {fs : List (Str × Fld)} {kvs : List (Str × V)}, FldsR S F H A fs kvs → FldsR S F H A (putFld k f fs) (putF k v kvs)
  | _, _, .nil => .cons hf .nil
  | _, _, .cons (k := g) h t => by
    unfold putFld
    show FldsR S F H A _ (if g = k then _ else _)
    by_cases c : g = k
    · rw [if_pos c, if_pos c]; exact .cons hf t
    · rw [if_neg c, if_neg c]; exact .cons h (t.put hf)
theorem FldsR.upd_ne {b : Addr} {u : HO} : ∀ {fs : List (Str × Fld)} {kvs : List (Str × V)}, FldsR S F H A fs kvs → b ∉ ownsF fs → FldsR S F (upd H b u) A fs kvs
  | _, _, .nil, _ => .nil
  | _, _, .cons (f := .val d) h t, n => by
    cases h with
    | val r => exact .cons (.val r) (t.upd_ne n)
  | _, _, .cons (f := .own c xs) h t, n => by
    have n' : b ∉ c :: ownsF _ := n
    rw [List.mem_cons, not_or] at n'
    cases h with
    | own e r a => exact .cons (.own (by rw [L2.upd_ne (Ne.symm n'.1)]; exact e) r a) (t.upd_ne n'.2)
theorem owns_mem {b : Addr} {xs : List D} : ∀ {fs : List (Str × Fld)}, getF k fs = some (.own b xs) → b ∈ ownsF fs
  | [], e => by cases e
  | (g, .val d) :: r, e => by
    unfold getF at e
    by_cases c : g = k
    · rw [if_pos c] at e; cases e
    · rw [if_neg c] at e; exact owns_mem (fs := r) e
  | (g, .own c ys) :: r, e => by
    unfold getF at e
    show b ∈ c :: ownsF r
    by_cases q : g = k
    · rw [if_pos q] at e; cases e; exact List.mem_cons_self
    · rw [if_neg q] at e; exact List.mem_cons_of_mem _ (owns_mem (fs := r) e)
theorem owns_setL {ys : List D} : ∀ {fs : List (Str × Fld)}, ownsF (Mp.setL k ys fs) = ownsF fs
  | [] => rfl
  | (g, .val d) :: r => by
    unfold Mp.setL
    by_cases c : g = k
    · rw [if_pos c]
    · rw [if_neg c]; exact owns_setL (fs := r)
  | (g, .own b xs) :: r => by
    unfold Mp.setL
    by_cases c : g = k
    · rw [if_pos c]; rfl
    · rw [if_neg c]; show b :: ownsF _ = b :: ownsF _; rw [owns_setL (fs := r)]
theorem FldsR.setL {b : Addr} {xs ys : List D} {ws : List V} (hy : RpL S F ys ws) (ha : A b) : ∀ {fs : List (Str × Fld)} {kvs : List (Str × V)}, FldsR S F H A fs kvs → getF k fs = some (.own b xs) → (ownsF fs).Nodup →
    FldsR S F (upd H b (.lst ws)) A (Mp.setL k ys fs) kvs
  | _, _, .nil, e, _ => by cases e
  | _, _, .cons (k := g) (f := .val d) h t, e, n => by
    unfold getF at e
    unfold Mp.setL
    by_cases c : g = k
    · rw [if_pos c] at e; cases e
    · rw [if_neg c] at e ⊢
      cases h with
      | val r => exact .cons (.val r) (t.setL hy ha e n)
  | _, _, .cons (k := g) (f := .own c zs) h t, e, n => by
    unfold getF at e
    unfold Mp.setL
    have n' : (c :: ownsF _).Nodup := n
    rw [List.nodup_cons] at n'
    by_cases q : g = k
    · rw [if_pos q] at e ⊢
      cases e
      cases h with
      | own e r a => exact .cons (.own upd_same hy a) (t.upd_ne n'.1)
    · rw [if_neg q] at e ⊢
      have hm := owns_mem e
      cases h with
      | own e' r a => exact .cons (.own (by rw [L2.upd_ne (show c ≠ b from fun z => n'.1 (by rw [z]; exact hm))]; exact e') r a) (t.setL hy ha e n'.2)
theorem owns_putO {b0 : Addr} {ys : List D} : ∀ {fs : List (Str × Fld)}, (ownsF fs).Nodup → b0 ∉ ownsF fs → (ownsF (putFld k (.own b0 ys) fs)).Nodup ∧ ∀ b ∈ ownsF (putFld k (.own b0 ys) fs), b = b0 ∨ b ∈ ownsF fs
  | [], n, _ => ⟨by simp [putFld, ownsF], fun b h => .inl (by simpa [putFld, ownsF] using h)⟩
  | (g, .val d') :: r, n, m => by
    unfold putFld
    by_cases c : g = k
    · rw [if_pos c]
      refine ⟨?_, fun b h => ?_⟩
      · show (b0 :: ownsF r).Nodup
        rw [List.nodup_cons]; exact ⟨m, n⟩
      · exact List.mem_cons.mp (show b ∈ b0 :: ownsF r from h)
    · rw [if_neg c]; exact owns_putO (fs := r) n m
  | (g, .own b xs) :: r, n, m => by
    unfold putFld
    have n' : (b :: ownsF r).Nodup := n
    have m' : b0 ∉ b :: ownsF r := m
    rw [List.nodup_cons] at n'
    rw [List.mem_cons, not_or] at m'
    by_cases c : g = k
    · rw [if_pos c]
      refine ⟨?_, fun x h => ?_⟩
      · show (b0 :: ownsF r).Nodup
        rw [List.nodup_cons]; exact ⟨m'.2, n'.2⟩
      · rcases List.mem_cons.mp (show x ∈ b0 :: ownsF r from h) with z | z
        · exact .inl z
        · exact .inr (List.mem_cons_of_mem _ z)
    · rw [if_neg c]
      obtain ⟨i1, i2⟩ := owns_putO (fs := r) n'.2 m'.2
      refine ⟨?_, fun x h => ?_⟩
      · show (b :: ownsF _).Nodup
        rw [List.nodup_cons]
        exact ⟨fun z => (i2 _ z).elim (fun q => m'.1 q.symm) n'.1, i1⟩
      · rcases List.mem_cons.mp (show x ∈ b :: ownsF (putFld k (.own b0 ys) r) from h) with z | z
        · exact .inr (by rw [z]; exact List.mem_cons_self)
        · exact (i2 _ z).imp id (List.mem_cons_of_mem _)
theorem FldsR.ownA : ∀ {fs : List (Str × Fld)} {kvs : List (Str × V)}, FldsR S F H A fs kvs → ∀ b ∈ ownsF fs, A b ∧ ∃ vs, H b = some (.lst vs)
  | _, _, .nil, b, h => by cases h
  | _, _, .cons (f := .val d) h t, b, m => t.ownA b m
  | _, _, .cons (f := .own c xs) h t, b, m => by
    rcases List.mem_cons.mp (show b ∈ c :: ownsF _ from m) with z | z
    · subst z
      cases h with
      | own e r a => exact ⟨a, _, e⟩
    · exact t.ownA b z
end

/-- the source while an object is made: the object -/
def jsO (S : Js J) : Js Ob where
  K := S.K
  R := S.R
  cl := S.cl
  xc := S.xc
  xf := S.xf
  rep := fun o F A H => ObR S o F A H
  frame := fun h s q => h.frame s q
  dom := fun h a => h.dm _ a
/-- no source -/
def js0 (S : Js J) : Js Unit where
  K := S.K
  R := S.R
  cl := S.cl
  xc := S.xc
  xf := S.xf
  rep := fun _ _ A _ => ∀ b, ¬ A b
  frame := fun h _ _ => h
  dom := fun h a => (h _ a).elim
instance {S : Js J} : PureJ (js0 S) := ⟨fun h => h⟩

/-! ### data without lists and objects -/
mutual
def tupD : D → Bool
  | .non => true
  | .bl _ => true
  | .int _ => true
  | .str _ => true
  | .tup xs => tupDL xs
  | _ => false
def tupDL : List D → Bool
  | [] => true
  | x :: r => tupD x && tupDL r
end
def freshB : D → Bool
  | .lst xs => tupDL xs
  | _ => false
mutual
theorem Rp.tupD {S : Js J} {S' : Js J'} {F F' : Hp} (hK : S.K = S'.K) (s : ∀ b o u, F b = some (.frz o u) → F' b = some (.frz o u)) : ∀ {d : D} {v : V}, Rp S F d v → Mp.tupD d = true → Rp S' F' d v
  | _, _, .non, _ => .non
  | _, _, .bl b, _ => .bl b
  | _, _, .int i, _ => .int i
  | _, _, .str x, _ => .str x
  | _, _, .tup (a := a) (vs := vs) h t, e => .tup (by
      rw [← hK]
      rcases h with ⟨o, h1, h2⟩ | h
      · exact .inl ⟨o, s _ _ _ h1, h2⟩
      · exact .inr h) (RpL.tupD hK s t (by unfold Mp.tupD at e; exact e))
  | _, _, .lst h t, e => by unfold Mp.tupD at e; cases e
  | _, _, .dct h l t, e => by unfold Mp.tupD at e; cases e
  | _, _, .jar, e => by unfold Mp.tupD at e; cases e
  | _, _, .obj a, e => by unfold Mp.tupD at e; cases e
  | _, _, .ins h l t, e => by unfold Mp.tupD at e; cases e
theorem RpL.tupD {S : Js J} {S' : Js J'} {F F' : Hp} (hK : S.K = S'.K) (s : ∀ b o u, F b = some (.frz o u) → F' b = some (.frz o u)) : ∀ {ds : List D} {vs : List V}, RpL S F ds vs → tupDL ds = true → RpL S' F' ds vs
  | _, _, .nil, _ => .nil
  | _, _, .cons h t, e => by
    unfold tupDL at e
    rw [Bool.and_eq_true] at e
    exact .cons (Rp.tupD hK s h e.1) (RpL.tupD hK s t e.2)
end

end Mp

/-! O2: the object lent as a frozen one while an expression reads it. -/
namespace Mp
open PySem PySem.Spec L2
open PyProof.Rows hiding St
variable {J J' : Type}
def Ob.over (o : Ob) (H F : Hp) : Hp := fun b => if b = o.ad ∨ b ∈ ownsF o.fs then H b else F b
def Ob.less (o : Ob) (F : Hp) : Hp := fun b => if b = o.ad ∨ b ∈ ownsF o.fs then none else F b
theorem Own.cv {S : Js J} {S' : Js J'} {g : Gh} {d : D} {a : Addr} (hK : S.K = S'.K) (hR : S.R = S'.R) (hc : S.cl = S'.cl) (hx : S.xc = S'.xc) (hf : S.xf = S'.xf) (h : Own S g d a) : Own S' g d a := by
  obtain ⟨n, ⟨ds, vs, e, e2, t⟩ | ⟨kds, kvs, e, e2, e3, t⟩ | ⟨kds, kvs, e, e2, e3, t⟩⟩ := h
  · exact ⟨n, .inl ⟨ds, vs, e, e2, t.cv hK hR hc hx hf⟩⟩
  · exact ⟨n, .inr (.inl ⟨kds, kvs, e, e2, e3, t.cv hK hR hc hx hf⟩)⟩
  · exact ⟨n, .inr (.inr ⟨kds, kvs, e, e2, e3, t.cv hK hR hc hx hf⟩)⟩
theorem Slots.cv {S : Js J} {S' : Js J'} {g : Gh} {M : Nat → Bool} {r : St} {m : Sd} (hK : S.K = S'.K) (hR : S.R = S'.R) (hc : S.cl = S'.cl) (hx : S.xc = S'.xc) (hf : S.xf = S'.xf) (h : Slots S g M r m) : Slots S' g M r m :=
  ⟨h.len, fun i d e q => let ⟨v, h1, h2⟩ := h.fr i d e q; ⟨v, h1, h2.cv hK hR hc hx hf⟩, fun i d e q => let ⟨a, h1, h2⟩ := h.ow i d e q; ⟨a, h1, h2.cv hK hR hc hx hf⟩, h.dj⟩
section
variable {S : Js J} {o : Ob} {F H : Hp} {A : Addr → Prop} {B : Bs} {g : Gh} {M : Nat → Bool} {r : St} {m : Sd}
theorem flat_keys : ∀ {fs : List (Str × Fld)} {kvs : List (Str × V)}, FldsR S F H A fs kvs → (flatF fs).map Prod.fst = kvs.map Prod.fst
  | _, _, .nil => rfl
  | _, _, .cons h t => by simp only [flatF, List.map_cons]; rw [flat_keys t]
theorem flat_vals {S' : Js J'} {F' : Hp} (hK : S.K = S'.K) (hR : S.R = S'.R) (hc : S.cl = S'.cl) (hx : S.xc = S'.xc) (hf : S.xf = S'.xf) (s : Same F F') : ∀ {fs : List (Str × Fld)} {kvs : List (Str × V)}, FldsR S F H A fs kvs → (∀ b ∈ ownsF fs, ∀ u, H b = some u → F' b = some u) → RpL S' F' ((flatF fs).map Prod.snd) (kvs.map Prod.snd)
  | _, _, .nil, _ => .nil
  | _, _, .cons (f := .val d) h t, q => by
    cases h with
    | val r => exact .cons ((r.mono s).cv hK hR hc hx hf) (flat_vals hK hR hc hx hf s t q)
  | _, _, .cons (f := .own b xs) h t, q => by
    cases h with
    | own e r a => exact .cons (.lst (q b List.mem_cons_self _ e) ((r.mono s).cv hK hR hc hx hf)) (flat_vals hK hR hc hx hf s t fun b hb => q b (List.mem_cons_of_mem _ hb))
/-- the object, frozen -/
theorem ObR.flat {S' : Js J'} {F' : Hp} (h : ObR S o F A H) (hK : S.K = S'.K) (hR : S.R = S'.R) (hc : S.cl = S'.cl) (hx : S.xc = S'.xc) (hf : S.xf = S'.xf) (s : Same F F') (q : ∀ b, b = o.ad ∨ b ∈ ownsF o.fs → ∀ u, H b = some u → F' b = some u) : Rp S' F' o.flat (.ref o.ad) := by
  obtain ⟨dx, kvs, e1, e2, e3, e4⟩ := h.ex
  exact .ins (by rw [← hc]; exact q _ (.inl rfl) _ e1) (flat_keys e4) (flat_vals hK hR hc hx hf s e4 fun b hb => q b (.inr hb))
theorem ObR.area (h : ObR S o F A H) {b : Addr} (hb : b = o.ad ∨ b ∈ ownsF o.fs) : A b ∧ ∃ u, H b = some u ∧ ∀ x y, u ≠ .frz x y := by
  obtain ⟨dx, kvs, e1, e2, e3, e4⟩ := h.ex
  rcases hb with rfl | hb
  · exact ⟨h.at_, _, e1, by intro x y z; cases z⟩
  · obtain ⟨a, vs, e⟩ := e4.ownA b hb
    exact ⟨a, _, e, by intro x y z; cases z⟩
end

/-! ### the combinators -/
def eLend (f : Ev Unit) (m : Sd) (o : Ob) (P : D → Ob → Prop) (E : XP Ob) : Prop := m[0]? = some (some (.obj o.ad)) ∧ f (m.set 0 (some o.flat)) () (fun d _ => tupD d = true ∧ P d o) xNo
def eLendF (f : Ev Unit) (m : Sd) (o : Ob) (P : D → Ob → Prop) (E : XP Ob) : Prop := m[0]? = some (some (.obj o.ad)) ∧ f (m.set 0 (some o.flat)) () (fun d _ => freshB d = true ∧ P d o) xNo
def tLend (f : Tv Unit) (m : Sd) (o : Ob) (P : Bool → Ob → Prop) (E : XP Ob) : Prop := m[0]? = some (some (.obj o.ad)) ∧ f (m.set 0 (some o.flat)) () (fun d _ => P d o) xNo
instance {f : Ev Unit} [h : MoE f] : MoE (eLend f) := ⟨fun ⟨e, p⟩ q _ => ⟨e, h.mo p (fun _ _ ⟨a, b⟩ => ⟨a, q _ _ b⟩) fun _ _ _ z => z⟩⟩
instance {f : Ev Unit} [h : MoE f] : MoE (eLendF f) := ⟨fun ⟨e, p⟩ q _ => ⟨e, h.mo p (fun _ _ ⟨a, b⟩ => ⟨a, q _ _ b⟩) fun _ _ _ z => z⟩⟩
instance {f : Tv Unit} [h : MoT f] : MoT (tLend f) := ⟨fun ⟨e, p⟩ q _ => ⟨e, h.mo p (fun _ _ b => q _ _ b) fun _ _ _ z => z⟩⟩
section
variable {S : Js J} {B : Bs} {M : Nat → Bool} {W : WX} {X : Cx} {e : Expr} {f : Ev Unit} {ft : Tv Unit}
end
end Mp

/-! O3: attributes and methods of frozen instances; methods of the object that is made; making. -/
namespace Mp
open PySem PySem.Spec L2
open PyProof.Rows hiding St
variable {J J' : Type}
def getK (k : Str) : List (Str × D) → Option D
  | [] => none
  | (g, x) :: r => if g = k then some x else getK k r
/-- the facts of a class -/
structure ClsT (S : Js J) (c : Nat) (attrs : List Str) : Prop where
  cls : Cls S.K (S.cl c)
  no : ∀ f ∈ attrs, NoAttr S.K (S.cl c) f
/-- a method -/
structure Mth (S : Js J) (P : Program) (w : World) (mg : Str → Option Value) (base : Heap) (k : Nat) (c : Nat) (nm : Str) (n : Nat) (φ : Fv J) : Prop where
  ex : ∃ f fd ps, Meth S.K (S.cl c) nm f ∧ FnG P w S.K mg base (L2.CX P w) k f fd ps (spF S n φ) ∧ Binds S.K fd ps []
  ln : ∀ ds j P E, φ ds j P E → ds.length = n
def tMthG (C : Addr) (m : Str) (sp : Sp) (E : St → XK) (ta : TE) (t : TA) : TE := fun σ H Q => ta σ H fun x H1 => ∃ a dx fs, x = .ref a ∧ H1 a = some (.ins C dx fs) ∧ fs.lookup m = none ∧ t σ H1 fun vs H2 => sp (x :: vs) H2 Q (E σ)
section
variable {X : Cx} {CX : CXT} {k : Nat} {f C : Addr} {fd : FuncData} {ps : List Str} {sp : Sp} {E : St → XK} {x m : Str} {p pos apos : Pos} {e o : Expr} {es : List Expr} {ta : TE} {t : TA}
def tMakG (C : Addr) (sp : Sp) (E : St → XK) (t : TA) : TE := fun σ H Q => t σ H fun vs H1 => ∀ x dx, H1 x = none → H1 dx = none → dx ≠ x →
  sp (.ref x :: vs) (upd (upd H1 dx (.own x)) x (.ins C dx [])) (fun v H2 => v = .non ∧ Q (.ref x) H2) (E σ)
end

/-! ### frozen instances -/
def eAt (c : Nat) (f : Str) (fo : Ev J) (m : Sd) (j : J) (P : D → J → Prop) (E : XP J) : Prop := fo m j (fun x j1 => ∃ kds d, x = .ins c kds ∧ getK f kds = some d ∧ P d j1) E
def eMt1 (c : Nat) (nm : Str) (φ : Fv J) (fo : Ev J) (fa : Av J) (m : Sd) (j : J) (P : D → J → Prop) (E : XP J) : Prop :=
  fo m j (fun x j1 => ∃ kds, x = .ins c kds ∧ getK nm kds = none ∧ fa m j1 (fun xs j2 => φ (x :: xs) j2 P (fun e j' => E e m j')) E) E
/-- .. of the object that is made -/
def eMtO (c : Nat) (nm : Str) (φ : Fv Ob) (fo : Ev Ob) (fa : Av Ob) (m : Sd) (o : Ob) (P : D → Ob → Prop) (E : XP Ob) : Prop :=
  fo m o (fun x o1 => x = .obj o1.ad ∧ o1.c = c ∧ getF nm o1.fs = none ∧ fa m o1 (fun xs o2 => φ (x :: xs) o2 P (fun e j' => E e m j')) E) E
/-- a new object -/
def eMak (c : Nat) (φ : Fv Ob) (fa : Av J) (m : Sd) (j : J) (P : D → J → Prop) (E : XP J) : Prop :=
  fa m j (fun xs j1 => ∀ a, φ (.obj a :: xs) ⟨a, c, []⟩ (fun d o => d = .non ∧ o.ad = a ∧ o.c = c ∧ P o.flat j1) (fun e _ => E e m j1)) E
instance {c : Nat} {f : Str} {fo : Ev J} [h : MoE fo] : MoE (eAt c f fo) := ⟨fun h1 q x => h.mo h1 (fun _ _ ⟨k, d, a, b, p⟩ => ⟨k, d, a, b, q _ _ p⟩) x⟩
instance {c : Nat} {nm : Str} {φ : Fv J} {fo : Ev J} {fa : Av J} [h : MoE fo] [ha : MoA fa] [hf : MoF φ] : MoE (eMt1 c nm φ fo fa) := ⟨fun h1 q x => h.mo h1 (fun _ _ ⟨k, a, b, p⟩ => ⟨k, a, b, ha.mo p (fun _ _ p => hf.mo p q fun _ _ => x _ _ _) x⟩) x⟩
instance {c : Nat} {nm : Str} {φ : Fv Ob} {fo : Ev Ob} {fa : Av Ob} [h : MoE fo] [ha : MoA fa] [hf : MoF φ] : MoE (eMtO c nm φ fo fa) := ⟨fun h1 q x => h.mo h1 (fun _ _ ⟨k, a, b, p⟩ => ⟨k, a, b, ha.mo p (fun _ _ p => hf.mo p q fun _ _ => x _ _ _) x⟩) x⟩
instance {c : Nat} {φ : Fv Ob} {fa : Av J} [ha : MoA fa] [hf : MoF φ] : MoE (eMak c φ fa) := ⟨fun h1 q x => ha.mo h1 (fun _ _ p a => hf.mo (p a) (fun _ _ ⟨a, b, c, p⟩ => ⟨a, b, c, q _ _ p⟩) fun _ _ => x _ _ _) x⟩
section
variable {S : Js J} {B : Bs} {M : Nat → Bool} {W : WX} {X : Cx} {e o : Expr} {es : List Expr} {pos p apos : Pos} {fo : Ev J} {fr : Av J} {φ : Fv J} {k n c : Nat} {nm f x : Str} {attrs : List Str} {ci : Bool}
theorem ExR.cv {S : Js J} {S' : Js J'} {F : Hp} {e : Ex} {cls : Value} {dx : Option Addr} (hK : S.K = S'.K) (hR : S.R = S'.R) (hc : S.cl = S'.cl) (h1 : S.xc = S'.xc) (h2 : S.xf = S'.xf) (h : ExR S F e cls dx) : ExR S' F e cls dx := by
  obtain ⟨a, b⟩ := h
  refine ⟨by rw [← h1]; exact a, ?_⟩
  split at b
  · exact b
  · obtain ⟨a, v, h3, h4, h5⟩ := b
    exact ⟨a, v, h3, by rw [← h2]; exact h4, h5.cv hK hR hc h1 h2⟩
end
/-- a class that may be made -/
structure Mkr (S : Js J) (P : Program) (w : World) (mg : Str → Option Value) (base : Heap) (k : Nat) (c : Nat) (x : Str) (n : Nat) (φ : Fv Ob) : Prop where
  ex : ∃ f fd ps, Mk S.K (S.cl c) f ∧ FnG P w S.K mg base (L2.CX P w) k f fd ps (spF (jsO S) n φ) ∧ Binds S.K fd ps [] ∧ mg x = some (.ref (S.cl c))
  ln : ∀ ds j P E, φ ds j P E → ds.length = n
section
variable {S : Js J} {B : Bs} {M : Nat → Bool} {W : WX} {X : Cx} {e o : Expr} {es : List Expr} {pos p apos : Pos} {fo : Ev J} {fr : Av J} {φ : Fv J} {k n c : Nat} {nm f x : Str} {attrs : List Str} {pl : Sem Bool}
end
end Mp

/-! O4: statements that change the object that is made. -/
namespace Mp
open PySem PySem.Spec L2
open PyProof.Rows hiding St
variable {J J' : Type}
section
variable {S : Js J} {B : Bs} {F H : Hp} {A A' : Addr → Prop} {g : Gh} {o o' : Ob} {fs : List (Str × Fld)} {kvs : List (Str × V)} {k f : Str}
theorem FldsR.area (s : ∀ b, A b → A' b) : ∀ {fs : List (Str × Fld)} {kvs : List (Str × V)}, FldsR S F H A fs kvs → FldsR S F H A' fs kvs
  | _, _, .nil => .nil
  | _, _, .cons (.val r) t => .cons (.val r) (t.area s)
  | _, _, .cons (.own e r a) t => .cons (.own e r (s _ a)) (t.area s)
theorem ObR.notOwn (h : ObR S o F A H) {C dx : Addr} {kvs : List (Str × V)} (e : H o.ad = some (.ins C dx kvs)) : o.ad ∉ ownsF o.fs := fun z => by
  obtain ⟨_, _, _, _, _, e4⟩ := h.ex
  obtain ⟨_, vs, q⟩ := e4.ownA _ z
  rw [e] at q; cases q
theorem ObR.putO {xs : List D} {vs : List V} {b : Addr} (h : ObR S o F A H) (nb : ¬ A b) (e : H b = some (.lst vs)) (r : RpL S F xs vs) : ∃ dx kvs, H o.ad = some (.ins (S.cl o.c) dx kvs) ∧ kvs.length = o.fs.length ∧
    ObR S (o.put f (.own b xs)) F (fun a => A a ∨ a = b) (upd H o.ad (.ins (S.cl o.c) dx (putF f (.ref b) kvs))) := by
  obtain ⟨dx, kvs, e1, e2, e3, e4⟩ := h.ex
  have ne : dx ≠ o.ad := fun z => by rw [z, e1] at e2; cases e2
  have nb0 : b ∉ ownsF o.fs := fun z => nb (e4.ownA b z).1
  have nb1 : b ≠ o.ad := fun z => nb (z ▸ h.at_)
  refine ⟨dx, kvs, e1, e4.len.symm, ⟨dx, _, upd_same, (upd_ne ne).trans e2, .inl e3, ((e4.upd_ne (h.notOwn e1)).area fun _ => .inl).put (.own (by rw [upd_ne nb1]; exact e) r (.inr rfl))⟩, .inl h.at_, (owns_putO h.nd nb0).1, fun a ha => ?_⟩
  by_cases c : a = o.ad
  · rw [c, upd_same]; intro z; cases z
  · rw [upd_ne c]
    rcases ha with ha | ha
    · exact h.dm a ha
    · rw [ha, e]; intro z; cases z
theorem ObR.own {b : Addr} {xs : List D} (h : ObR S o F A H) (e : getF k o.fs = some (.own b xs)) : ∃ dx kvs vs, H o.ad = some (.ins (S.cl o.c) dx kvs) ∧ kvs.lookup k = some (.ref b) ∧ H b = some (.lst vs) ∧ RpL S F xs vs ∧ A b := by
  obtain ⟨dx, kvs, e1, e2, e3, e4⟩ := h.ex
  obtain ⟨v, h1, h2⟩ := e4.get e
  cases h2 with
  | own a r c => exact ⟨dx, kvs, _, e1, h1, a, r, c⟩
theorem ObR.setL {b : Addr} {xs ys : List D} {ws : List V} (h : ObR S o F A H) (e : getF k o.fs = some (.own b xs)) (r : RpL S F ys ws) : ObR S (o.setL k ys) F A (upd H b (.lst ws)) := by
  obtain ⟨dx, kvs, e1, e2, e3, e4⟩ := h.ex
  obtain ⟨a, vs, q⟩ := e4.ownA b (owns_mem e)
  have n1 : o.ad ≠ b := fun z => by rw [← z, e1] at q; cases q
  have n2 : dx ≠ b := fun z => by rw [← z, e2] at q; cases q
  refine ⟨⟨dx, kvs, by rw [upd_ne (show (o.setL k ys).ad ≠ b from n1)]; exact e1, by rw [upd_ne n2]; exact e2, e3, e4.setL r a e h.nd⟩, h.at_, by show (ownsF (Mp.setL k ys o.fs)).Nodup; rw [owns_setL]; exact h.nd, fun c hc => ?_⟩
  by_cases z : c = b
  · rw [z, upd_same]; intro z; cases z
  · rw [upd_ne z]; exact h.dm c hc
end
/-! ### the combinators -/
def sOSet (c : Nat) (f : Str) (fe : Ev Ob) (m : Sd) (o : Ob) (P : Fl → Sd → Ob → Prop) (E : XP Ob) : Prop := fe m o (fun d o1 => m[0]? = some (some (.obj o1.ad)) ∧ o1.c = c ∧ o1.fs.length < 100 ∧ P .next m (o1.put f (.val d))) E
def sOSetO (c : Nat) (f : Str) (fe : Ev Ob) (m : Sd) (o : Ob) (P : Fl → Sd → Ob → Prop) (E : XP Ob) : Prop := fe m o (fun d o1 => m[0]? = some (some (.obj o1.ad)) ∧ o1.c = c ∧ o1.fs.length < 100 ∧ ∃ xs, d = .lst xs ∧ ∀ b, P .next m (o1.put f (.own b xs))) E
def sOAug (φ : D → D → Option D) (c : Nat) (f : Str) (fe : Ev Ob) (m : Sd) (o : Ob) (P : Fl → Sd → Ob → Prop) (E : XP Ob) : Prop := m[0]? = some (some (.obj o.ad)) ∧ o.c = c ∧ ∃ x, getF f o.fs = some (.val x) ∧
  fe m o (fun y o1 => o1.ad = o.ad ∧ o1.c = c ∧ o1.fs.length < 100 ∧ ∃ z, φ x y = some z ∧ P .next m (o1.put f (.val z))) E
def sOApp (c : Nat) (f : Str) (fe : Ev Ob) (m : Sd) (o : Ob) (P : Fl → Sd → Ob → Prop) (E : XP Ob) : Prop := m[0]? = some (some (.obj o.ad)) ∧ o.c = c ∧ ∃ b xs0, getF f o.fs = some (.own b xs0) ∧
  fe m o (fun d o1 => ∃ xs, getF f o1.fs = some (.own b xs) ∧ xs.length < LINE ∧ P .next m (o1.setL f (xs ++ [d]))) E
def sOPop (c : Nat) (f : Str) (m : Sd) (o : Ob) (P : Fl → Sd → Ob → Prop) (E : XP Ob) : Prop := m[0]? = some (some (.obj o.ad)) ∧ o.c = c ∧ ∃ b xs y, getF f o.fs = some (.own b xs) ∧ xs.getLast? = some y ∧ P .next m (o.setL f xs.dropLast)
def sOIns (c : Nat) (f : Str) (fk : Ev Ob) (m : Sd) (o : Ob) (P : Fl → Sd → Ob → Prop) (E : XP Ob) : Prop := m[0]? = some (some (.obj o.ad)) ∧ o.c = c ∧ ∃ b xs0, getF f o.fs = some (.own b xs0) ∧
  fk m o (fun kd o1 => ∃ (i : Int) (xs : List D) (y : D), kd = .int i ∧ o1.ad = o.ad ∧ o1.c = c ∧ getF f o1.fs = some (.own b xs) ∧ xs.getLast? = some y ∧ 0 ≤ i ∧ i < LIM ∧ xs.length < LINE ∧ P .next m (o1.setL f (xs.dropLast.take i.toNat ++ [y] ++ xs.dropLast.drop i.toNat))) E
def sOSetIx (c : Nat) (f : Str) (fk fe : Ev Ob) (m : Sd) (o : Ob) (P : Fl → Sd → Ob → Prop) (E : XP Ob) : Prop := fe m o (fun d o1 => m[0]? = some (some (.obj o1.ad)) ∧ o1.c = c ∧ ∃ b xs0, getF f o1.fs = some (.own b xs0) ∧
  fk m o1 (fun kd o2 => ∃ xs i n, getF f o2.fs = some (.own b xs) ∧ kd = .int i ∧ ixN xs.length i = some n ∧ P .next m (o2.setL f (xs.set n d))) E) E
def sOAugIx (φ : D → D → Option D) (c : Nat) (f : Str) (fk fe : Ev Ob) (m : Sd) (o : Ob) (P : Fl → Sd → Ob → Prop) (E : XP Ob) : Prop := m[0]? = some (some (.obj o.ad)) ∧ o.c = c ∧ ∃ b xs0, getF f o.fs = some (.own b xs0) ∧
  fk m o (fun kd o1 => ∃ xs i x, getF f o1.fs = some (.own b xs) ∧ kd = .int i ∧ atI xs i = some x ∧ fe m o1 (fun y o2 => ∃ xs2 n z, getF f o2.fs = some (.own b xs2) ∧ φ x y = some z ∧ ixN xs2.length i = some n ∧ P .next m (o2.setL f (xs2.set n z))) E) E
section
variable {c : Nat} {f : Str} {fk fe : Ev Ob} {φ : D → D → Option D}
instance [h : MoE fe] : MoS (sOSet c f fe) := ⟨fun h1 q x => h.mo h1 (fun _ _ ⟨a, b, d, p⟩ => ⟨a, b, d, q _ _ _ p⟩) x⟩
instance [h : MoE fe] : MoS (sOSetO c f fe) := ⟨fun h1 q x => h.mo h1 (fun _ _ ⟨a, b, d, xs, e, p⟩ => ⟨a, b, d, xs, e, fun b => q _ _ _ (p b)⟩) x⟩
instance [h : MoE fe] : MoS (sOAug φ c f fe) := ⟨fun ⟨a, b, y, e, h1⟩ q x => ⟨a, b, y, e, h.mo h1 (fun _ _ ⟨a, b, d, z, e, p⟩ => ⟨a, b, d, z, e, q _ _ _ p⟩) x⟩⟩
instance [h : MoE fe] : MoS (sOApp c f fe) := ⟨fun ⟨a, b, y, xs, e, h1⟩ q x => ⟨a, b, y, xs, e, h.mo h1 (fun _ _ ⟨a, b, d, p⟩ => ⟨a, b, d, q _ _ _ p⟩) x⟩⟩
instance : MoS (sOPop c f) := ⟨fun ⟨a, b, y, xs, e, h1, h2, p⟩ q x => ⟨a, b, y, xs, e, h1, h2, q _ _ _ p⟩⟩
instance [h : MoE fk] : MoS (sOIns c f fk) := ⟨fun ⟨a, b, y, xs, e, h1⟩ q x => ⟨a, b, y, xs, e, h.mo h1 (fun _ _ ⟨i, xs, y, e1, e2, e3, e4, e5, e6, e7, e8, p⟩ => ⟨i, xs, y, e1, e2, e3, e4, e5, e6, e7, e8, q _ _ _ p⟩) x⟩⟩
instance [h : MoE fk] [h' : MoE fe] : MoS (sOSetIx c f fk fe) := ⟨fun h1 q x => h'.mo h1 (fun _ _ ⟨a, b, y, xs, e, h2⟩ => ⟨a, b, y, xs, e, h.mo h2 (fun _ _ ⟨xs, i, n, e1, e2, e3, p⟩ => ⟨xs, i, n, e1, e2, e3, q _ _ _ p⟩) x⟩) x⟩
instance [h : MoE fk] [h' : MoE fe] : MoS (sOAugIx φ c f fk fe) := ⟨fun ⟨a, b, y, xs, e, h1⟩ q x => ⟨a, b, y, xs, e, h.mo h1 (fun _ _ ⟨xs, i, z, e1, e2, e3, h2⟩ => ⟨xs, i, z, e1, e2, e3, h'.mo h2 (fun _ _ ⟨xs, n, z, e1, e2, e3, p⟩ => ⟨xs, n, z, e1, e2, e3, q _ _ _ p⟩) x⟩) x⟩⟩
end
section
variable {S : Js J} {B : Bs} {M : Nat → Bool} {W : WX} {X : Cx} {e ek : Expr} {pos p np p2 ap ap2 np2 p3 fp fp2 : Pos} {fe fk : Ev Ob} {c : Nat} {f x : Str} {attrs : List Str} {φ : D → D → Option D} {g : Gh} {r : St} {H : Hp} {m : Sd} {o : Ob}
theorem Ok.self (ok : Ok (jsO S) B g M r H m o) (hM : M 0 = false) (h : m[0]? = some (some (.obj o.ad))) : r[0]? = some (some (.ref o.ad)) := by
  obtain ⟨v, h1, h2⟩ := ok.s.fr 0 _ h hM
  cases h2
  exact h1
end
end Mp

/-! O5: the statements on objects, written short; dicts with int and text keys. -/
namespace Mp
open PySem PySem.Spec L2
open PyProof.Rows hiding St
variable {J J' : Type}
section
variable {S : Js J} {B : Bs} {M : Nat → Bool} {W : WX} {X : Cx} {e ek : Expr} {pos p np p2 ap ap2 np2 p3 fp fp2 : Pos} {fe fk : Ev Ob} {c : Nat} {f x : Str} {attrs : List Str}
end
section
variable {S : Js J} {B : Bs} {M : Nat → Bool} {W : WX} {X : Cx} {e ek a b : Expr} {pos p np : Pos} {fe fk fa fb : Ev J} {x : Str} {i : Nat} {ci : Bool}
/-! ### dicts -/
def keyD : D → Option Key
  | .int i => some (.inl i)
  | .str x => some (.inr x)
  | _ => none
def valD {κ : Type} [DecidableEq κ] (kds : List (κ × D)) (k : κ) : Option D := (kds.find? fun kv => decide (kv.1 = k)).map (·.2)
def putD {κ : Type} [DecidableEq κ] (kds : List (κ × D)) (k : κ) (d : D) : List (κ × D) :=
  if (kds.any fun kv => decide (kv.1 = k)) = true then kds.map (fun kv => if kv.1 = k then (kv.1, d) else kv) else kds ++ [(k, d)]
def dgetD : D → D → Option D
  | .dct kds, k => (keyD k).bind (valD kds)
  | _, _ => none
def dinD : D → D → Option D
  | k, .dct kds => (keyD k).map fun k => .bl (valD kds k).isSome
  | _, _ => none
def dninD : D → D → Option D
  | k, .dct kds => (keyD k).map fun k => .bl (!(valD kds k).isSome)
  | _, _ => none
theorem key_of {F : Hp} {d : D} {v : V} {k : Key} (h : Rp S F d v) (e : keyD d = some k) : v = kV k := by
  unfold keyD at e; split at e
  · cases e; rw [int_of h]; rfl
  · cases e; rw [str_of h]; rfl
  · cases e
theorem dct_of {F : Hp} {kds : List (Key × D)} {v : V} (h : Rp S F (.dct kds) v) : ∃ a kvs, v = .ref a ∧ F a = some (.dK kvs) ∧ kds.map Prod.fst = kvs.map Prod.fst ∧ RpL S F (kds.map Prod.snd) (kvs.map Prod.snd) := by
  cases h; exact ⟨_, _, rfl, by assumption, by assumption, by assumption⟩
theorem valD_of {κ : Type} [DecidableEq κ] {F : Hp} {k : κ} : ∀ {kds : List (κ × D)} {kvs : List (κ × V)}, kds.map Prod.fst = kvs.map Prod.fst → RpL S F (kds.map Prod.snd) (kvs.map Prod.snd) → (valD kds k = none ∧ valV kvs k = none) ∨ ∃ d v, valD kds k = some d ∧ valV kvs k = some v ∧ Rp S F d v
  | [], [], _, _ => .inl ⟨rfl, rfl⟩
  | (g, x) :: r, (g', y) :: r', h1, h2 => by
    simp only [List.map_cons, List.cons.injEq] at h1
    obtain ⟨rfl, h1⟩ := h1
    cases h2 with
    | cons r1 r2 =>
      by_cases c : g = k
      · exact .inr ⟨x, y, by simp [valD, List.find?_cons, c], valV_pos c, r1⟩
      · have e1 : valD ((g, x) :: r) k = valD r k := by simp [valD, List.find?_cons, c]
        rw [e1, valV_neg (p := (g, y)) c]
        exact valD_of h1 r2
  | [], _ :: _, h, _ => by simp at h
  | _ :: _, [], h, _ => by simp at h
theorem put_of {κ : Type} [DecidableEq κ] {F : Hp} {k : κ} {d : D} {v : V} {kds : List (κ × D)} {kvs : List (κ × V)} (h1 : kds.map Prod.fst = kvs.map Prod.fst) (h2 : RpL S F (kds.map Prod.snd) (kvs.map Prod.snd)) (r : Rp S F d v) :
    (putD kds k d).map Prod.fst = (putK kvs k v).map Prod.fst ∧ RpL S F ((putD kds k d).map Prod.snd) ((putK kvs k v).map Prod.snd) := by
  have ha : ∀ {kds : List (κ × D)} {kvs : List (κ × V)}, kds.map Prod.fst = kvs.map Prod.fst → (kds.any fun kv => decide (kv.1 = k)) = (kvs.any fun kv => decide (kv.1 = k)) := fun {kds kvs} h => by
    have e1 : (kds.any fun kv => decide (kv.1 = k)) = (kds.map Prod.fst).any (fun z => decide (z = k)) := by rw [List.any_map]; rfl
    have e2 : (kvs.any fun kv => decide (kv.1 = k)) = (kvs.map Prod.fst).any (fun z => decide (z = k)) := by rw [List.any_map]; rfl
    rw [e1, e2, h]
  unfold putD putK
  rw [ha h1]
  split
  · rename_i hh
    clear hh ha
    induction kds generalizing kvs with
    | nil =>
      cases kvs with
      | nil => exact ⟨rfl, .nil⟩
      | cons a r => simp at h1
    | cons a t ih =>
      cases kvs with
      | nil => simp at h1
      | cons b t' =>
        simp only [List.map_cons, List.cons.injEq] at h1
        cases h2 with
        | cons r1 r2 =>
          obtain ⟨i1, i2⟩ := ih h1.2 r2
          simp only [List.map_cons]
          by_cases c : a.1 = k
          · rw [if_pos c, if_pos (h1.1 ▸ c)]
            exact ⟨by rw [i1, h1.1], .cons r i2⟩
          · rw [if_neg c, if_neg (h1.1 ▸ c)]
            exact ⟨by rw [i1, h1.1], .cons r1 i2⟩
  · simp only [List.map_append, List.map_cons, List.map_nil]
    exact ⟨by rw [h1], h2.append (.cons r .nil)⟩
def rDG : R2 := fun x y H Q => ∃ a v, x = .ref a ∧ DGet H a y (some v) ∧ Q v H
theorem own_dct {g : Gh} {kds : List (Key × D)} {a : Addr} (h : Own S g (.dct kds) a) : g.F a = none ∧ ∃ kvs, g.G a = some (.dK kvs) ∧ kds.map Prod.fst = kvs.map Prod.fst ∧ RpL S g.F (kds.map Prod.snd) (kvs.map Prod.snd) := by
  obtain ⟨n, ⟨ds, vs, e, _⟩ | ⟨kds, kvs, e, e2, e3, t⟩ | ⟨kds, kvs, e, _⟩⟩ := h
  · cases e
  · cases e; exact ⟨n, kvs, e2, e3, t⟩
  · cases e
/-- of an owned dict -/
theorem dgO {i : Nat} (hu : X.A.units + 64 < cLine) (hb : PE X b (rdE S B M W .mix fb)) (hx : MtN X i x := by exact mtN _) (hM : M i = true := by rfl) (hs : NoSl b := by intro _ _; rfl) : PE X (.Subscript (.Name x np) b pos) (rdE S B M W .clean (eOp dgetD (eVar i) fb)) :=
  PE.imp (pe_dget (by omega) hx.pe hb hs) fun R H Q ⟨g, m, j, P, E, ok, ⟨d0, h0, hf⟩, q, xo⟩ => by
    obtain ⟨a, hr, ho⟩ := ok.s.ow i _ h0 hM
    refine ⟨_, hr, g, m, j, _, E, ok, hf, fun y j2 g1 v H1 hh l1 ok1 w => ?_, xo⟩
    obtain ⟨z, h3, p⟩ := hh
    unfold dgetD at h3
    split at h3
    · rename_i kds
      cases hk : keyD y with
      | none => rw [hk] at h3; cases h3
      | some k =>
        rw [hk] at h3
        have h3 : valD kds k = some z := h3
        obtain ⟨_, kvs, hG, l, t⟩ := own_dct (ho.le l1)
        rcases valD_of (k := k) l t with ⟨q1, _⟩ | ⟨d', v', z1, z2, r⟩
        · rw [q1] at h3; cases h3
        · rw [z1] at h3; cases h3
          rw [key_of w hk]
          exact ⟨a, v', rfl, by rw [← z2]; exact DGet.k (ok1.b.gh _ _ hG), q _ _ g1 v' H1 p l1 ok1 r⟩
    · cases h3
def rDI : R2 := fun y x H Q => ∃ a o, x = .ref a ∧ DGet H a y o ∧ Q (.bl o.isSome) H
def rDNI : R2 := fun y x H Q => ∃ a o, x = .ref a ∧ DGet H a y o ∧ Q (.bl (!o.isSome)) H
theorem op_din (hu : X.A.units + 64 < cLine) : OpR X (compareOp .In) rDI := by
  intro pins s σ H x y v u Q I rx ry h
  obtain ⟨a, o, rfl, g, q⟩ := h
  obtain rfl : u = Value.ref a := ry
  exact d_in (by omega) I g rx fun s3 I3 => ⟨.bl o.isSome, H, I3, rfl, q⟩
theorem s_din : OpS S rDI dinD ci .clean := by
  intro B g H j d1 d2 d v1 v2 Q ok h1 h2 e q
  unfold dinD at e
  split at e
  · rename_i kds
    cases hk : keyD d1 with
    | none => rw [hk] at e; cases e
    | some k =>
      rw [hk] at e
      cases e
      obtain ⟨a, kvs, rfl, ha, l, t⟩ := dct_of h2
      rw [key_of h1 hk]
      refine ⟨a, _, rfl, DGet.k (ok.sub ci _ _ ha), ?_⟩
      have : (valV kvs k).isSome = (valD kds k).isSome := by
        rcases valD_of (k := k) l t with ⟨z1, z2⟩ | ⟨d', v', z1, z2, r⟩ <;> simp [z1, z2]
      rw [this]
      exact ans (B := B) ok q fun _ => .bl _
  · cases e
/-- d[k] = e, d an owned dict -/
def sSetK (i : Nat) (fk fe : Ev J) (m : Sd) (j : J) (P : Fl → Sd → J → Prop) (E : XP J) : Prop := ∃ kds, m[i]? = some (some (.dct kds)) ∧
  fe m j (fun d j1 => fk m j1 (fun kd j2 => ∃ k, keyD kd = some k ∧ kds.length < LINE ∧ P .next (m.set i (some (.dct (putD kds k d)))) j2) E) E
instance [h1 : MoE fk] [h2 : MoE fe] : MoS (sSetK i fk fe) := ⟨fun ⟨k, e, h⟩ q x => ⟨k, e, h2.mo h (fun _ _ h => h1.mo h (fun _ _ ⟨k, a, b, p⟩ => ⟨k, a, b, q _ _ _ p⟩) x) x⟩⟩
theorem zSetK (i : Nat) (hu : X.A.units + 64 < cLine) (he : PE X e (rdE S B M W .clean fe)) (hk : PE X ek (rdE S B M W .mix fk)) (hx : MtN X i x := by exact mtN _) (hM : M i = true := by rfl) (hs : swapsWith e (some (.Subscript (.Name x np) ek p)) pos.line X.env = pure false := by rfl) :
    PS X (.Assign [.Subscript (.Name x np) ek p] e pos) (rdS S B M W (sSetK i fk fe)) :=
  PS.imp (ps_dput (by omega) hx.pe hk he hs) fun En r H ⟨g, m, j, P, E, ok, ⟨kds, hm, hf⟩, q, xo⟩ => by
    obtain ⟨a, hr, ho⟩ := ok.s.ow i _ hm hM
    refine ⟨g, m, j, _, E, ok, hf, fun d j1 g1 v H1 h1 l1 ok1 w => ⟨_, hr, g1, m, _, _, E, ok1, h1, fun kd j2 g2 v2 H2 hh l2 ok2 w2 => ?_, xo.le l1.f⟩, xo⟩
    obtain ⟨k, hk, hl, p⟩ := hh
    obtain ⟨hF, kvs, hG, l, t⟩ := own_dct (ho.le (l1.trans l2))
    have hlen : kds.length = kvs.length := by have := congrArg List.length l; simpa using this
    rw [key_of w2 hk]
    refine ⟨a, _, rfl, DPut.k (ok2.b.gh _ _ hG) (by rw [← hlen]; exact Nat.lt_of_lt_of_le hl line_ok), ?_⟩
    obtain ⟨p1, p2⟩ := put_of (k := k) l t (Rp.mono l2.f w)
    exact q _ _ _ p (g2.put a (.dK (putK kvs k v))) r _ (l1.trans l2).f ⟨ok2.b.put hF hG (by intro x y z; cases z), ok2.s.put hM hm hr ⟨hF, .inr (.inl ⟨_, _, rfl, upd_same, p1, p2⟩)⟩⟩
end
/-! ### y = [..], the object lent -/
section
variable {S : Js J} {B : Bs} {M : Nat → Bool} {W : WX} {X : Cx} {elt tg iter : Expr} {ifs : List Expr} {pos py spos : Pos} {y : Str} {scope : Scope} {fi : Iv Unit} {γ : Gv} {ft : Tv Unit} {fe : Ev Unit} {ks : List Nat} {cc w : Bool}
end
/-! ### the facts of a method, of an __init__ -/
def clsBody (s : Stmt) : List Stmt := match s with | .ClassDef _ _ _ b _ _ _ _ _ _ _ => b | _ => []
structure MF (K : PySem.W.Frag) (cl : Nat → Addr) (c : Nat) (nm qual : Str) (st : Stmt) (ps : List Str) : Prop where
  ex : ∃ f fd, L2.Fun K nm qual st f fd ∧ Meth K (cl c) nm f ∧ Binds K fd ps []
structure MI (K : PySem.W.Frag) (cl : Nat → Addr) (c : Nat) (nm qual : Str) (st : Stmt) (ps : List Str) : Prop where
  ex : ∃ f fd, L2.Fun K nm qual st f fd ∧ Mk K (cl c) f ∧ Binds K fd ps []
theorem ClsT.o {S : Js J} {c : Nat} {attrs : List Str} (T : ClsT S c attrs) : ClsT (jsO S) c attrs := ⟨T.cls, T.no⟩
theorem ClsT.z {S : Js J} {c : Nat} {attrs : List Str} (T : ClsT S c attrs) : ClsT (js0 S) c attrs := ⟨T.cls, T.no⟩
/-! ### texts that are written: equal or not -/
theorem ofString_inj {a b : String} : (Str.ofString a = Str.ofString b) ↔ a = b := by
  refine ⟨fun h => ?_, fun h => by rw [h]⟩
  rw [Str.ofString_eq_toList, Str.ofString_eq_toList] at h
  have h1 : a.toList.map Char.toNat = b.toList.map Char.toNat := by
    have := congrArg Str.cps h
    simpa using this
  have h2 : a.toList = b.toList := by
    have inj : ∀ {l l' : List Char}, l.map Char.toNat = l'.map Char.toNat → l = l' := fun {l} => by
      induction l with
      | nil => intro l' h; cases l' with
        | nil => rfl
        | cons => simp at h
      | cons c r ih =>
        intro l' h
        cases l' with
        | nil => simp at h
        | cons c' r' =>
          simp only [List.map_cons, List.cons.injEq] at h
          rw [ih h.2, Char.ext (UInt32.toNat_inj.mp h.1)]
    exact inj h1
  exact String.toList_inj.mp h2
end Mp

/-! O6: closures over objects, step by step. -/
namespace Mp
open PySem L2
variable {J : Type}
/-- an attribute of a frozen instance -/
def atP (c : Nat) (f : Str) (x : D) (P : D → J → Prop) (j : J) : Prop := ∃ kds d, x = .ins c kds ∧ getK f kds = some d ∧ P d j
/-- a method's name is no attribute -/
def noP (c : Nat) (f : Str) (x : D) : Prop := ∃ kds, x = .ins c kds ∧ getK f kds = none
section
variable {f fa fb fe fk fo : Ev J} {fr : Av J} {m : Sd} {j : J} {P : D → J → Prop} {PS : Fl → Sd → J → Prop} {E : XP J} {c i : Nat} {nm : Str}
@[simp ↓] theorem a_at : eAt c nm fo m j P E = fo m j (fun x j1 => atP c nm x P j1) E := rfl
theorem mt1_eq {φ : Fv J} : eMt1 c nm φ fo fr m j P E = fo m j (fun x j1 => noP c nm x ∧ fr m j1 (fun xs j2 => φ (x :: xs) j2 P (fun e j' => E e m j')) E) E := by
  unfold eMt1 noP
  congr 1
  funext x j1
  exact propext ⟨fun ⟨k, a, b, p⟩ => ⟨⟨k, a, b⟩, p⟩, fun ⟨⟨k, a, b⟩, p⟩ => ⟨k, a, b, p⟩⟩
@[simp ↓] theorem a_mt1 {φ : Fv J} : eMt1 c nm φ fo fr m j P E = fo m j (fun x j1 => noP c nm x ∧ fr m j1 (fun xs j2 => WF φ (x :: xs) j2 P (fun e j' => E e m j')) E) E := mt1_eq
/-- a making: what follows is not looked at -/
def WM (c : Nat) (φ : Fv Ob) (xs : List D) (P : D → Prop) (E : Ex → Prop) (_t : Tg P E := .mk) : Prop := ∀ a, φ (.obj a :: xs) ⟨a, c, []⟩ (fun d o => d = .non ∧ o.ad = a ∧ o.c = c ∧ P o.flat) (fun e _ => E e)
@[simp ↓] theorem a_mak {φ : Fv Ob} : eMak c φ fr m j P E = fr m j (fun xs j1 => WM c φ xs (fun d => P d j1) (fun e => E e m j1)) E := rfl
@[simp ↓] theorem a_setK : sSetK i fk fe m j PS E = ∃ kds, m[i]? = some (some (.dct kds)) ∧ fe m j (fun d j1 => fk m j1 (fun kd j2 => ∃ k, keyD kd = some k ∧ kds.length < LINE ∧ PS .next (m.set i (some (.dct (putD kds k d)))) j2) E) E := rfl
end
section
variable {f fe fk fo : Ev Ob} {fr : Av Ob} {m : Sd} {o : Ob} {P : D → Ob → Prop} {PT : Bool → Ob → Prop} {PS : Fl → Sd → Ob → Prop} {E : XP Ob} {c : Nat} {nm : Str} {φ : D → D → Option D} {g : Ev Unit} {gt : Tv Unit}
@[simp ↓] theorem a_lend : eLend g m o P E = (m[0]? = some (some (.obj o.ad)) ∧ g (m.set 0 (some o.flat)) () (fun d _ => tupD d = true ∧ P d o) xNo) := rfl
@[simp ↓] theorem a_lendF : eLendF g m o P E = (m[0]? = some (some (.obj o.ad)) ∧ g (m.set 0 (some o.flat)) () (fun d _ => freshB d = true ∧ P d o) xNo) := rfl
@[simp ↓] theorem a_tlend : tLend gt m o PT E = (m[0]? = some (some (.obj o.ad)) ∧ gt (m.set 0 (some o.flat)) () (fun d _ => PT d o) xNo) := rfl
@[simp ↓] theorem a_mtO {φ : Fv Ob} : eMtO c nm φ fo fr m o P E = fo m o (fun x o1 => x = .obj o1.ad ∧ o1.c = c ∧ getF nm o1.fs = none ∧ fr m o1 (fun xs o2 => WF φ (x :: xs) o2 P (fun e j' => E e m j')) E) E := rfl
@[simp ↓] theorem a_oset : sOSet c nm fe m o PS E = fe m o (fun d o1 => m[0]? = some (some (.obj o1.ad)) ∧ o1.c = c ∧ o1.fs.length < 100 ∧ PS .next m (o1.put nm (.val d))) E := rfl
@[simp ↓] theorem a_osetO : sOSetO c nm fe m o PS E = fe m o (fun d o1 => m[0]? = some (some (.obj o1.ad)) ∧ o1.c = c ∧ o1.fs.length < 100 ∧ ∃ xs, d = .lst xs ∧ ∀ b, PS .next m (o1.put nm (.own b xs))) E := rfl
@[simp ↓] theorem a_oaug : sOAug φ c nm fe m o PS E = (m[0]? = some (some (.obj o.ad)) ∧ o.c = c ∧ ∃ x, getF nm o.fs = some (.val x) ∧ fe m o (fun y o1 => o1.ad = o.ad ∧ o1.c = c ∧ o1.fs.length < 100 ∧ ∃ z, φ x y = some z ∧ PS .next m (o1.put nm (.val z))) E) := rfl
@[simp ↓] theorem a_oapp : sOApp c nm fe m o PS E = (m[0]? = some (some (.obj o.ad)) ∧ o.c = c ∧ ∃ b xs0, getF nm o.fs = some (.own b xs0) ∧ fe m o (fun d o1 => ∃ xs, getF nm o1.fs = some (.own b xs) ∧ xs.length < LINE ∧ PS .next m (o1.setL nm (xs ++ [d]))) E) := rfl
@[simp ↓] theorem a_opop : sOPop c nm m o PS E = (m[0]? = some (some (.obj o.ad)) ∧ o.c = c ∧ ∃ b xs y, getF nm o.fs = some (.own b xs) ∧ xs.getLast? = some y ∧ PS .next m (o.setL nm xs.dropLast)) := rfl
@[simp ↓] theorem a_oins : sOIns c nm fk m o PS E = (m[0]? = some (some (.obj o.ad)) ∧ o.c = c ∧ ∃ b xs0, getF nm o.fs = some (.own b xs0) ∧ fk m o (fun kd o1 => ∃ (i : Int) (xs : List D) (y : D), kd = .int i ∧ o1.ad = o.ad ∧ o1.c = c ∧ getF nm o1.fs = some (.own b xs) ∧ xs.getLast? = some y ∧ 0 ≤ i ∧ i < LIM ∧ xs.length < LINE ∧ PS .next m (o1.setL nm (xs.dropLast.take i.toNat ++ [y] ++ xs.dropLast.drop i.toNat))) E) := rfl
@[simp ↓] theorem a_osetIx : sOSetIx c nm fk fe m o PS E = fe m o (fun d o1 => m[0]? = some (some (.obj o1.ad)) ∧ o1.c = c ∧ ∃ b xs0, getF nm o1.fs = some (.own b xs0) ∧ fk m o1 (fun kd o2 => ∃ xs i n, getF nm o2.fs = some (.own b xs) ∧ kd = .int i ∧ ixN xs.length i = some n ∧ PS .next m (o2.setL nm (xs.set n d))) E) E := rfl
@[simp ↓] theorem a_oaugIx : sOAugIx φ c nm fk fe m o PS E = (m[0]? = some (some (.obj o.ad)) ∧ o.c = c ∧ ∃ b xs0, getF nm o.fs = some (.own b xs0) ∧ fk m o (fun kd o1 => ∃ xs i x, getF nm o1.fs = some (.own b xs) ∧ kd = .int i ∧ atI xs i = some x ∧ fe m o1 (fun y o2 => ∃ xs2 n z, getF nm o2.fs = some (.own b xs2) ∧ φ x y = some z ∧ ixN xs2.length i = some n ∧ PS .next m (o2.setL nm (xs2.set n z))) E) E) := rfl
end
@[simp] theorem str_lit {a b : String} : (Str.ofString a = Str.ofString b) = (a = b) := propext ofString_inj
end Mp

/-! OD: two names and an attribute of the object under construction at once. -/
namespace Mp
open PySem PySem.Spec L2
open PyProof.Rows hiding St
section
variable {X : Cx} {o : Expr} {f : Str} {pos : Pos} {ta : TE}
def gFld (K : PySem.W.Frag) (ta : TE) (f : Str) : TG := fun v σ H Q => ta σ H fun x H2 => ∃ a C dx fs, x = .ref a ∧ H2 a = some (.ins C dx fs) ∧ Cls K C ∧ NoAttr K C f ∧ fs.length < 1000 ∧ Q σ (upd H2 a (.ins C dx (putF f v fs)))
end
/-- a source with these classes -/
structure Lk (K : PySem.W.Frag) (cl xc : Nat → Addr) (xf : Nat → Str) {J : Type} (S : Js J) : Prop where
  K : S.K = K
  cl : S.cl = cl
  xc : S.xc = xc
  xf : S.xf = xf
def sAsgO (i k : Nat) (c : Nat) (f : Str) (fe : Ev Ob) (m : Sd) (o : Ob) (P : Fl → Sd → Ob → Prop) (E : XP Ob) : Prop := fe m o (fun d o1 => ∃ x y z, d = .tup [x, y, z] ∧ m[0]? = some (some (.obj o1.ad)) ∧ o1.c = c ∧ o1.fs.length < 100 ∧ P .next ((m.set i (some x)).set k (some y)) (o1.put f (.val z))) E
instance {i k c : Nat} {f : Str} {fe : Ev Ob} [h : MoE fe] : MoS (sAsgO i k c f fe) := ⟨fun h1 q x => h.mo h1 (fun _ _ ⟨u, v, w, a, b, d, e, p⟩ => ⟨u, v, w, a, b, d, e, q _ _ _ p⟩) x⟩
section
variable {J : Type} {S : Js J} {B : Bs} {M : Nat → Bool} {W : WX} {X : Cx} {e : Expr} {pos px py pz pt np : Pos} {fe : Ev Ob} {c kt i k : Nat} {f x y z : Str} {attrs : List Str}
end
/-- an attribute of the object under construction that is a value -/
def eAtO (c : Nat) (f : Str) (m : Sd) (o : Ob) (P : D → Ob → Prop) (E : XP Ob) : Prop := m[0]? = some (some (.obj o.ad)) ∧ o.c = c ∧ ∃ d, getF f o.fs = some (.val d) ∧ P d o
instance {c : Nat} {f : Str} : MoE (eAtO c f) := ⟨fun ⟨a, b, d, e, p⟩ q x => ⟨a, b, d, e, q _ _ p⟩⟩
section
variable {J : Type} {S : Js J} {B : Bs} {M : Nat → Bool} {W : WX} {X : Cx} {p np : Pos} {c : Nat} {f x : Str} {attrs : List Str}
end
@[simp ↓] theorem a_atO {c : Nat} {f : Str} {m : Sd} {o : Ob} {P : D → Ob → Prop} {E : XP Ob} : eAtO c f m o P E = (m[0]? = some (some (.obj o.ad)) ∧ o.c = c ∧ ∃ d, getF f o.fs = some (.val d) ∧ P d o) := rfl
@[simp ↓] theorem a_asgO {i k c : Nat} {f : Str} {fe : Ev Ob} {m : Sd} {o : Ob} {PS : Fl → Sd → Ob → Prop} {E : XP Ob} : sAsgO i k c f fe m o PS E = fe m o (fun d o1 => ∃ x y z, d = .tup [x, y, z] ∧ m[0]? = some (some (.obj o1.ad)) ∧ o1.c = c ∧ o1.fs.length < 100 ∧ PS .next ((m.set i (some x)).set k (some y)) (o1.put f (.val z))) E := rfl
end Mp

/-! P1: the random source of the laws k11 to k24 (boot, spin): a list of two ints. -/
namespace Mp
open PySem PySem.Spec L2
open PyProof.Rows hiding St
/-- an int below k, any; the source is not counted -/
def drawN (ds : List D) (n : Nat) (P : D → Nat → Prop) (E : Ex → Nat → Prop) : Prop := ∃ k, ds = [.jar, .int k] ∧ 0 < k ∧ sm k = true ∧ ∀ v, 0 ≤ v → v < k → P (.int v) n
instance : MoF drawN := ⟨fun ⟨k, e, h1, h2, h⟩ q _ => ⟨k, e, h1, h2, fun v a b => q _ _ (h v a b)⟩⟩
def repS (R : Addr) (r k : Int) (A : Addr → Prop) (H : Hp) : Prop := 0 ≤ r ∧ 0 ≤ k ∧ k < 2305843009213693951 ∧ H R = some (.lst [.int r, .int k]) ∧ ∀ b, A b ↔ b = R
def jsS (K : PySem.W.Frag) (cl xc : Nat → Addr) (xf : Nat → Str) (R : Addr) : Js Nat where
  K := K
  R := .ref R
  cl := cl
  xc := xc
  xf := xf
  rep := fun n _ A H => ∃ r k, repS R r k A H
  frame := fun {n F F' A H H'} ⟨r, k, h1, h2, h3, h4, h5⟩ s q => ⟨r, k, h1, h2, h3, by rw [q R ((h5 R).mpr rfl)]; exact h4, h5⟩
  dom := fun {n F A H b} ⟨r, k, h1, h2, h3, h4, h5⟩ a => by rw [(h5 b).mp a, h4]; simp
instance {K : PySem.W.Frag} {cl xc : Nat → Addr} {xf : Nat → Str} {R : Addr} : PureJ (jsS K cl xc xf R) := ⟨fun h => h⟩
def rGtI : R2 := rI0 fun i j => .bl (decide (j < i))
def rGeI : R2 := rI0 fun i j => .bl (decide (j ≤ i))
def rMulI : R2 := rI CMul fun i j => .int (i * j)
def tS0 (K : PySem.W.Frag) : TE := tOp (rIxL K) (tVar 0) (tC (.int 0))
def tS1 (K : PySem.W.Frag) : TE := tOp (rIxL K) (tVar 0) (tC (.int 1))
def tSpin (K : PySem.W.Frag) : TS :=
  tSeq (tIfS (tTest (tOp rGtI (tS0 K) (tC (.int 0))))
    (tSeq (tAsg (tOp rMod (tS0 K) (tVar 1)) (gName 2))
      (tSeq (tAsg (tOp rDivW (tS0 K) (tVar 1)) (gSub (tVar 0) (tC (.int 0)) rSetL))
        (tRet (tVar 2)))) tNext)
  (tSeq (tAsg (tOp rMod (tOp rAddI (tOp rMulW (tS1 K) (tC (.int 6364136223846793005))) (tC (.int 1442695040888963407))) (tC (.int 2305843009213693951))) (gSub (tVar 0) (tC (.int 1)) rSetL))
  (tRet (tOp rMod (tOp rDivW (tS1 K) (tC (.int 1048573))) (tVar 1))))
/-! ### boot -/
def tAbs3 : TE := tCB rAbs1 (tCons (tVar 3) tNil)
def tTenP : TE := tOp rPowI (tC (.int 10)) (tC (.int 18))
def tCutS (K : PySem.W.Frag) : TE := L2.tSl (rSlL K) (tVar 0) tNoPart (tPart (tC (.int 60)))
def tBoot (K : PySem.W.Frag) : TS :=
  tSeq (tPar 1 2 (tCons (tC (.int 0)) (tCons (tOp rAddI (tC (.int 3850)) (tCB (rLen1 K) (tCons (tVar 0) tNil))) tNil)))
  (tSeq (tFor (iList K (tCutS K)) (gName 3)
    (tSeq (tAsg (tIf (tTest (tOp rGeI tAbs3 tTenP)) (tOp rAddI (tOp rMulI (tVar 1) (tC (.int 3))) tAbs3) (tVar 1)) (gName 1))
      (tAsg (tOp rMod (tOp rAddI (tOp rAddI (tOp rMulI (tVar 2) (tC (.int 40503))) (tOp rMulI tAbs3 (tC (.int 2)))) (tCB rIntB (tCons (tOp rLtI (tVar 3) (tC (.int 0))) tNil))) (tC (.int 2305843009213693951))) (gName 2))))
  (tRet (tLst (tCons (tVar 1) (tCons (tVar 2) tNil)))))
def spBoot (K : PySem.W.Frag) (cl xc : Nat → Addr) (xf : Nat → Str) : Sp := spOpenG (jsS K cl xc xf) Few K
end Mp

/-! OA: four names at once. -/
namespace Mp
open PySem PySem.Spec L2
variable {J : Type}
def sPr4 (i k l n : Nat) (fa fb fc fd : Ev J) (m : Sd) (j : J) (P : Fl → Sd → J → Prop) (E : XP J) : Prop := fa m j (fun x j1 => fb m j1 (fun y j2 => fc m j2 (fun z j3 => fd m j3 (fun u j4 => P .next ((((m.set i (some x)).set k (some y)).set l (some z)).set n (some u)) j4) E) E) E) E
instance {i k l n : Nat} {f1 f2 f3 f4 : Ev J} [h1 : MoE f1] [h2 : MoE f2] [h3 : MoE f3] [h4 : MoE f4] : MoS (sPr4 i k l n f1 f2 f3 f4) := ⟨fun h q x => h1.mo h (fun _ _ h => h2.mo h (fun _ _ h => h3.mo h (fun _ _ h => h4.mo h (fun _ _ p => q _ _ _ p) x) x) x) x⟩
section
variable {S : Js J} {B : Bs} {M : Nat → Bool} {W : WX} {X : Cx} {i k l n : Nat} {a b c e : Expr} {fa fb fc fe : Ev J} {pos px py pz pu pt pt2 : Pos} {kt k2 : Nat} {x y z u : Str}
end
@[simp ↓] theorem a_spr4 {i k l n : Nat} {fa fb fc fd : Ev J} {m : Sd} {j : J} {PS : Fl → Sd → J → Prop} {E : XP J} : sPr4 i k l n fa fb fc fd m j PS E = fa m j (fun x j1 => fb m j1 (fun y j2 => fc m j2 (fun z j3 => fd m j3 (fun u j4 => PS .next ((((m.set i (some x)).set k (some y)).set l (some z)).set n (some u)) j4) E) E) E) E := rfl
end Mp

/-! NK: str(x). -/
namespace Mp
open PySem PySem.Spec L2
open PyProof.Rows hiding St
variable {J : Type}
def strD : D → Option Str
  | .str x => some x
  | d => reprD d
def strX : List D → Option D
  | [d] => match strD d with | some x => some (.str x) | none => none
  | _ => none
theorem py_str {d : D} {y : Str} (h : py d = some (.str y)) : ∃ z, d = .str z := by
  cases d with
  | str z => exact ⟨z, rfl⟩
  | _ => unfold py at h; first | cases h | (split at h <;> cases h)
def rStr (S : Js J) : List V → Hp → VK → Prop := fun vs H Q => ∃ G d v x, vs = [v] ∧ Same G H ∧ (∃ o u, H sysModules = some (.frz o u)) ∧ Rp S G d v ∧ strD d = some x ∧ Q (.str x) H
section
variable {S : Js J} {X : Cx} {ci : Bool}
theorem cr_str (hK : X.K = S.K) (hg : X.A.guards = some []) (hu : X.A.units + 64 < cLine) : CallR X (.type "str") (rStr S) := by
  intro pins s σ H vs us Q I r h
  obtain ⟨G, d, v, x, rfl, gh, sm, hr, e, q⟩ := h
  obtain ⟨u, rfl, r1⟩ := vals1 r
  unfold strD at e
  split at e
  · cases e
    cases hr
    obtain ⟨t, rfl⟩ := r1
    exact PySem.P.str_of_str ⟨.str _, H, I, ⟨t, rfl⟩, q⟩
  · unfold reprD at e
    rename_i hns
    split at e
    · rename_i p hp
      split at e
      · rename_i hc
        simp only [Bool.and_eq_true, decide_eq_true_eq] at hc
        cases e
        have hsz : p.shown.length ≤ sizeLine := Nat.le_trans hc.2 line_ok
        obtain ⟨as, h1, h2⟩ := reads_of I hK gh sm hr hp r1
        have fin : ∀ (h' : Heap) (t : Tok) (tk : Nat), (∀ b o, s.heap.get? b = some o → h'.get? b = some o) → EP X pins σ Q (.str p.shown t) { s with heap := h', toks := tk } := fun h' t tk hk => ⟨.str _, H, I.kept hk, ⟨t, rfl⟩, q⟩
        cases h1 with
        | none => exact PySem.P.str_of_none (fin s.heap _ _ fun _ _ z => z)
        | bool b => exact PySem.P.str_of_bool (fin s.heap _ _ fun _ _ z => z)
        | int i t => exact PySem.P.str_of_int (by simpa [PyData.showable] using hc.1.1) (fin s.heap _ _ fun _ _ z => z)
        | str y t =>
          obtain ⟨z, hz⟩ := py_str hp
          exact (hns _ hz).elim
        | list a1 a2 a3 a4 => exact str_of_reads (.list a1 a2 a3 a4) hc.1.1 (fun _ => h2) hg (by omega) (fun _ _ z => z) fin hsz
        | tuple a1 a2 a3 a4 => exact str_of_reads (.tuple a1 a2 a3 a4) hc.1.1 (fun _ => h2) hg (by omega) (fun _ _ z => z) fin hsz
        | dict a1 a2 a3 a4 a5 => exact str_of_reads (.dict a1 a2 a3 a4 a5) hc.1.1 (fun _ => h2) hg (by omega) (fun _ _ z => z) fin hsz
      · cases e
    · cases e
theorem s_strX : CallS S (rStr S) strX ci .clean := by
  intro B g H j ds d vs Q ok h e q
  unfold strX at e
  split at e
  · split at e
    · rename_i x hx
      cases e
      obtain ⟨v, rfl, k⟩ := one_of h
      exact ⟨_, _, v, x, rfl, ok.sub ci, ok.sm, k, hx, ans (B := B) ok q fun _ => .str _⟩
    · cases e
  · cases e
theorem bt_str' : bootBuiltins "str" = some (.type "str") := by decide +kernel
variable {B : Bs} {M : Nat → Bool} {W : WX} {e : Expr} {es : List Expr} {pos p : Pos} {fr : Av J}
theorem kStr (hK : X.K = S.K) (hgd : X.A.guards = some []) (hu : X.A.units + 64 < cLine) (hm : X.mg "str" = none) (ha : PA X (e :: es) (rdA S B M W ci fr)) (hg : Gl X "str" := by rfl) (he : starEach (e :: es) X.env = (false, eval e X.env) :: starEach es X.env := by rfl) (hpl : (backTo pos (starEach es X.env)).any (·.1) = false := by rfl) :
    PE X (.Call (.Name "str" p) (e :: es) [] pos) (rdE S B M W .clean (eB strX fr)) := kT (cr_str hK hgd hu) s_strX hm bt_str' ha hg (by decide) (by decide) he hpl
end
@[simp] theorem str_d {d : D} : strX [d] = match strD d with | some x => some (.str x) | none => none := rfl
end Mp

/-! OC: is True, is not False. -/
namespace Mp
open PySem PySem.Spec L2
variable {J : Type}
def isBD : D → D → Option D
  | .bl a, .bl b => some (.bl (decide (a = b)))
  | _, _ => none
def notBD : D → D → Option D
  | .bl a, .bl b => some (.bl (!decide (a = b)))
  | _, _ => none
@[simp] theorem isB_i {a b : Bool} : isBD (.bl a) (.bl b) = some (.bl (decide (a = b))) := rfl
@[simp] theorem notB_i {a b : Bool} : notBD (.bl a) (.bl b) = some (.bl (!decide (a = b))) := rfl
end Mp

/-! OE: xs.count(v) of a list of ints or of truths; an owned list + a list. -/
namespace Mp
open PySem PySem.Spec L2
open PyProof.Rows hiding St
variable {J : Type}
def countD : D → D → Option D
  | .lst xs, .int k => match ints? xs with
    | some ns => some (.int (ns.count k : Nat))
    | none => none
  | .lst xs, .bl b => match bls? xs with
    | some bs => some (.int (bs.count b : Nat))
    | none => none
  | _, _ => none
def beqk (b : Bool) (v : Value) : Bool := match v with
  | .bool c => c == b
  | _ => false
def rCntB (K : PySem.W.Frag) : V → List V → Hp → VK → Prop := fun x xs H Q => ∃ (p : Addr) (bs : List Bool) (b : Bool), x = .ref p ∧ xs = [.bl b] ∧ SqL K H p (bs.map V.bl) ∧ Q (.int (bs.count b : Nat)) H
section
variable {X : Cx}
end
def isLs : D → Prop
  | .lst _ => True
  | _ => False
def eMtL (φ : D → D → Option D) (fo fe : Ev J) (m : Sd) (j : J) (P : D → J → Prop) (E : XP J) : Prop := fo m j (fun x j1 => isLs x ∧ fe m j1 (fun y j2 => ∃ z, φ x y = some z ∧ P z j2) E) E
instance {φ : D → D → Option D} {fo fe : Ev J} [h1 : MoE fo] [h2 : MoE fe] : MoE (eMtL φ fo fe) := ⟨fun p q x => h1.mo p (fun _ _ ⟨l, p⟩ => ⟨l, h2.mo p (fun _ _ ⟨z, e, p⟩ => ⟨z, e, q _ _ p⟩) x⟩) x⟩
section
variable {S : Js J} {B : Bs} {M : Nat → Bool} {W : WX} {X : Cx} {e o b : Expr} {x : Str} {pos p apos : Pos} {fo fe fb : Ev J}
/-- an owned list and a list: a new list -/
theorem adO {i : Nat} {np : Pos} (hb : PE X b (rdE S B M W .clean fb)) (hx : MtN X i x := by exact mtN _) (hM : M i = true := by rfl) : PE X (.BinOp (.Name x np) .Add b pos) (rdE S B M W .fresh (eOp addL (eVar i) fb)) :=
  PE.imp (pe_op op_cat hx.pe hb) fun R H Q ⟨g, m, j, P, E, ok, ⟨d0, h0, hf⟩, q, xo⟩ => by
    obtain ⟨a, hr, ho⟩ := ok.s.ow i _ h0 hM
    refine ⟨_, hr, g, m, j, _, E, ok, hf, fun y j2 g1 v H1 hh l1 ok1 w => ?_, xo⟩
    obtain ⟨z, h3, p⟩ := hh
    unfold addL at h3
    split at h3
    · split at h3
      · rename_i xs ys hl
        cases h3
        obtain ⟨_, vs, hG, t⟩ := own_lst (ho.le l1)
        obtain ⟨c, ws, rfl, hc, rb⟩ := lst_of (rp_hp (k := true) w)
        refine ⟨a, c, vs, ws, rfl, rfl, ok1.b.gh _ _ hG, ok1.b.sub true _ _ hc, ?_, fun pp hp => ?_⟩
        · rw [← t.length, ← rb.length]; exact Nat.le_trans hl line_ok
        · obtain ⟨n1, n2, n3, n4⟩ := ok1.b.hn hp
          refine q _ _ (g1.see pp (.lst (vs ++ ws))) _ _ p (l1.trans (Le.see n2)) ⟨ok1.b.see _ hp, ok1.s.le (Le.see n2)⟩ ⟨pp, rfl, l1.g.free n2, n1, .inl ⟨_, _, rfl, upd_same, ?_⟩⟩
          exact t.append rb
      · cases h3
    · cases h3
end
@[simp] theorem addL_l {xs ys : List D} : addL (.lst xs) (.lst ys) = if xs.length + ys.length ≤ LINE then some (.lst (xs ++ ys)) else none := rfl
end Mp

/-! OF: t == () whatever the items are. -/
namespace Mp
open PySem PySem.Spec L2
open PyProof.Rows hiding St
variable {J : Type}
def eqTD (x y : D) : Option D := match x, y with | .tup (_ :: _), .tup [] => some (.bl false) | x, y => eqD x y
def rTn (K : PySem.W.Frag) : R2 := fun x y H Q => ∃ a c xs, x = .ref a ∧ y = .ref c ∧ SqT K H a xs ∧ SqT K H c [] ∧ xs ≠ [] ∧ Q (.bl false) H
section
variable {S : Js J} {X : Cx}
end
@[simp] theorem eqT_n {xs : List D} : eqTD (.tup xs) (.tup []) = some (.bl xs.isEmpty) := by
  cases xs with
  | nil => exact (show eqD (.tup []) (.tup []) = some (.bl true) from rfl)
  | cons x r => rfl
end Mp

/-! OG: t.count(k), t a tuple of ints. -/
namespace Mp
open PySem PySem.Spec L2
open PyProof.Rows hiding St
variable {J : Type}
def countT : D → D → Option D
  | .tup xs, .int k => match ints? xs with
    | some ns => some (.int (ns.count k : Nat))
    | none => none
  | _, _ => none
def rCntT (K : PySem.W.Frag) : V → List V → Hp → VK → Prop := fun x xs H Q => ∃ (p : Addr) (ns : List Int) (k : Int), x = .ref p ∧ xs = [.int k] ∧ SqT K H p (ns.map V.int) ∧ Q (.int (ns.count k : Nat)) H
section
variable {X : Cx}
end
def cntD : D → D → Option D
  | .tup xs, .int k => match ints? xs with
    | some ns => some (.int (ns.count k : Nat))
    | none => none
  | x, y => countD x y
section
variable {S : Js J} {B : Bs} {M : Nat → Bool} {W : WX} {X : Cx} {e o b : Expr} {x : Str} {pos p apos : Pos} {fo fe fb : Ev J}
end
end Mp

/-! OI: isinstance(x, (T, U)) of built-in types; defs that call themselves. -/
namespace Mp
open PySem PySem.Spec L2
open PyProof.Rows hiding St
variable {J : Type}
def isi2D (T U : String) (d : D) : Option D := match tyD d with
  | some t => match kitB t T, kitB t U with | some b, some c => some (.bl (b || c)) | _, _ => none
  | none => none
section
variable {S : Js J} {B : Bs} {M : Nat → Bool} {W : WX} {X : Cx} {e : Expr} {pos p p2 p3 pt : Pos} {fe : Ev J} {x y : Str} {kt : Nat}
end
/-! ### two names at once, one of them read in a comprehension -/
section
variable {S : Js J} {B : Bs} {M : Nat → Bool} {W : WX} {X : Cx} {i k : Nat} {a b : Expr} {fa fb : Ev J} {pos px py pt pt2 : Pos} {kt k2 : Nat} {x y : Str}
end
/-! ### m, n = divmod(a, b) -/
def sDm (i k : Nat) (fa fb : Ev J) (m : Sd) (j : J) (P : Fl → Sd → J → Prop) (E : XP J) : Prop := fa m j (fun x j1 => fb m j1 (fun y j2 => ∃ a b : Int, x = .int a ∧ y = .int b ∧ 0 < b ∧ sm b = true ∧ P .next ((m.set i (some (.int (a / b)))).set k (some (.int (a % b)))) j2) E) E
instance {i k : Nat} {f1 f2 : Ev J} [h1 : MoE f1] [h2 : MoE f2] : MoS (sDm i k f1 f2) := ⟨fun h q x => h1.mo h (fun _ _ h => h2.mo h (fun _ _ ⟨a, b, e1, e2, c1, c2, p⟩ => ⟨a, b, e1, e2, c1, c2, q _ _ _ p⟩) x) x⟩
@[simp ↓] theorem a_dm {i k : Nat} {fa fb : Ev J} {m : Sd} {j : J} {PS : Fl → Sd → J → Prop} {E : XP J} : sDm i k fa fb m j PS E = fa m j (fun x j1 => fb m j1 (fun y j2 => ∃ a b : Int, x = .int a ∧ y = .int b ∧ 0 < b ∧ sm b = true ∧ PS .next ((m.set i (some (.int (a / b)))).set k (some (.int (a % b)))) j2) E) E := rfl
section
variable {S : Js J} {B : Bs} {M : Nat → Bool} {W : WX} {X : Cx} {i k : Nat} {a b : Expr} {fa fb : Ev J} {pos px py pt p cp : Pos} {kt : Nat} {x y : Str}
end
/-! ### a slot that owns nothing from here to the block's end -/
def sUn (i : Nat) (f : Sv J) (m : Sd) (j : J) (P : Fl → Sd → J → Prop) (E : XP J) : Prop := f (m.set i none) j (fun l m' j' => P l (m'.set i none) j') xNo
instance {i : Nat} {f : Sv J} [h1 : MoS f] : MoS (sUn i f) := ⟨fun h q x => h1.mo h (fun _ _ _ p => q _ _ _ p) fun _ _ _ z => z⟩
@[simp ↓] theorem a_un1 {i : Nat} {f : Sv J} {m : Sd} {j : J} {PS : Fl → Sd → J → Prop} {E : XP J} : sUn i f m j PS E = f (m.set i none) j (fun l m' j' => PS l (m'.set i none) j') xNo := rfl
/-! ### defs that call themselves -/
def recF (N n : Nat) (g : Fv J → Sv J) : Nat → Fv J
  | 0 => fun _ _ _ _ => False
  | m + 1 => runF N n (g (recF N n g m))
end Mp

/-! OR: y = x, both own: y takes what x owns. -/
namespace Mp
open PySem PySem.Spec L2
open PyProof.Rows hiding St
variable {J : Type}
def sMove (i k : Nat) (m : Sd) (j : J) (P : Fl → Sd → J → Prop) (E : XP J) : Prop := ∃ d, m[k]? = some (some d) ∧ P .next ((m.set i (some d)).set k none) j
instance {i k : Nat} : MoS (sMove (J := J) i k) := ⟨fun ⟨d, e, p⟩ q _ => ⟨d, e, q _ _ _ p⟩⟩
@[simp ↓] theorem a_move {i k : Nat} {m : Sd} {j : J} {P : Fl → Sd → J → Prop} {E : XP J} : sMove i k m j P E = ∃ d, m[k]? = some (some d) ∧ P .next ((m.set i (some d)).set k none) j := rfl
end Mp

/-! OS: raise C(), C an own class without own __init__. -/
namespace Mp
open PySem PySem.Spec L2
open PyProof.Rows hiding St
variable {J : Type}
abbrev veB : List Value := [.type "ValueError", .type "Exception", .type "BaseException", .type "object"]
/-- such a class -/
structure XM0 (S : Js J) (mg : Str → Option Value) (c : Nat) (x : Str) : Prop where
  q : PySem.W.excIn S.K (S.xc c) veB "ValueError.__new__" = true
  kp : PySem.W.keepIn S.K (.ref (S.xc c)) = true
  sb : PySem.W.subIn S.K (.ref (S.xc c)) (.type "BaseException") = some true
  ty : PySem.W.typeIn S.K (.ref (S.xc c)) = some (.type "type")
  gl : mg x = some (.ref (S.xc c))
def sRaise0 (c : Nat) (m : Sd) (j : J) (P : Fl → Sd → J → Prop) (E : XP J) : Prop := E ⟨c, none⟩ m j
instance {c : Nat} : MoS (sRaise0 (J := J) c) := ⟨fun h _ x => x _ _ _ h⟩
@[simp ↓] theorem a_raise0 {c : Nat} {m : Sd} {j : J} {P : Fl → Sd → J → Prop} {E : XP J} : sRaise0 c m j P E = E ⟨c, none⟩ m j := rfl
section
variable {X : Cx} {C : Addr}
end
/-! isinstance(e, ..) for a caught exception that may have no data -/
def eIsX0 (a : Addr) (b : Bool) (fe : Ev J) (m : Sd) (j : J) (P : D → J → Prop) (E : XP J) : Prop := fe m j (fun d j1 => d = .obj a ∧ P (.bl b) j1) E
instance {a : Addr} {b : Bool} {fe : Ev J} [h1 : MoE fe] : MoE (eIsX0 a b fe) := ⟨fun h q x => h1.mo h (fun _ _ ⟨e, p⟩ => ⟨e, q _ _ p⟩) x⟩
@[simp ↓] theorem a_isx0 {a : Addr} {b : Bool} {f : Ev J} {m : Sd} {j : J} {P : D → J → Prop} {E : XP J} : eIsX0 a b f m j P E = f m j (fun d j1 => d = .obj a ∧ P (.bl b) j1) E := rfl
def rIsY (K : PySem.W.Frag) (C a : Addr) (d : Option Addr) : List V → Hp → VK → Prop := fun xs H Q => ∃ c : V, xs = [.ref a, c] ∧ (d = none ∨ ∃ dd fs, d = some dd ∧ H dd = some (.xd fs)) ∧
  ((∃ (cv : Value) (b : Bool), (∀ u, RelV c u → u = cv) ∧ PySem.W.kitOne K (.ref C) cv = some b ∧ Q (.bl b) H) ∨
   ∃ (tp : Addr) (o : Obj) (cs : List V) (vs : List Value) (b : Bool), c = .ref tp ∧ H tp = some (.frz o (.tup cs)) ∧ (∀ us, Vals cs us → us = vs) ∧ PySem.W.kitAny K (.ref C) vs = some b ∧ Q (.bl b) H)
theorem call_isY {X : Cx} {a C : Addr} {oe : Obj} {d : Option Addr} {pn : List (Addr × Obj)} (T : XCl X.K C) (hz : Zc (.ref C) d oe) (hf : ∃ vs, oe.data = .fields vs) : CallR (X.suite a ((a, oe) :: pn)) (.builtin "isinstance") (rIsY X.K C a d) := by
  intro pins s σ H xs us Q I r h
  obtain ⟨c, rfl, hdd, h⟩ := h
  cases r with
  | cons rx rr =>
    cases rr with
    | cons rt rr =>
      cases rr
      cases rx
      obtain ⟨hget, _⟩ := I.pin (a, oe) (List.mem_append.mpr (.inl List.mem_cons_self))
      obtain ⟨vs, hv⟩ := hf
      have hn : PySem.W.notCls oe = true := by unfold PySem.W.notCls; rw [hv]
      have Jx : ∃ od, PySem.W.InstAt s.heap a oe C od := by
        rcases hdd with rfl | ⟨dd, fs, rfl, hdd⟩
        · exact ⟨none, hget, hz.1, hn, by rw [hz.2]; trivial⟩
        · have hx : ObjOk X.prog X.w H s.heap dd (.xd fs) := I.hok dd _ hdd
          obtain ⟨mA, hns, hr⟩ := hx
          obtain ⟨od, ho, hl⟩ := lookIn_ns hns
          exact ⟨some od, hget, hz.1, hn, by rw [hz.2]; exact ho⟩
      obtain ⟨od, Ji⟩ := Jx
      have Z : PySem.W.KitX X.K (.ref a) (.ref C) (fun h => PySem.W.InstAt h a oe C od) := PySem.W.kitx_exc T.isSome T.ga T.gg T.exC T.ha T.hn T.ht T.hm
      rcases h with ⟨cv, b, hcv, e, q⟩ | ⟨tp, o, cs, vs', b, rfl, htp, hvs, e, q⟩
      · have ec := hcv _ rt
        subst ec
        exact PySem.W.kia_one Z I.kIn Ji e (fun z => nomatch z) fun tk => ⟨.bl b, H, I.kept (t' := tk) fun _ _ z => z, rfl, q⟩
      · cases rt
        obtain ⟨its, rv, ⟨o2, ho2, hc2, n2, hd2⟩, _⟩ := I.tuple (xs := cs) (.inl (.inr ⟨o, htp⟩))
        have ev := hvs _ rv
        subst ev
        obtain ⟨oc, odd, oda, osl⟩ := o2
        dsimp only at hc2 hd2
        subst hc2 hd2
        exact PySem.W.kia_tup Z I.kIn Ji ho2 e (fun z => nomatch z) fun tk => ⟨.bl b, H, I.kept (t' := tk) fun _ _ z => z, rfl, q⟩
section
variable {S : Js J} {B : Bs} {M : Nat → Bool} {W : WX} {X : Cx} {e : Expr} {pos p p2 : Pos} {fe : Ev J} {x : Str} {a : Addr} {oe : Obj} {ex : Ex} {d : Option Addr} {pn : List (Addr × Obj)}
variable {mg : Str → Option Value} {tT : Nat → Nat → Bool} {n : Nat} {names : List (Str × Nat)} {attrs : List Str}
theorem exr_or (hx : ExR S B.F0 ex (.ref (S.xc ex.c)) d) {g : Gh} {H : Hp} {j : J} (ok : OkB S B g H j) : d = none ∨ ∃ dd fs, d = some dd ∧ H dd = some (.xd fs) := by
  cases hz : ex.d with
  | none => obtain ⟨_, h2⟩ := hx; rw [hz] at h2; exact .inl h2
  | some z => obtain ⟨dd, v, h1, h2, _⟩ := exr_at hx hz ok; exact .inr ⟨dd, _, h1, h2⟩
theorem isX0y {v : V} {cv : Value} {b : Bool} {te : Expr} (T : XCl S.K (S.xc ex.c)) (hK : X.K = S.K) (hz : Zc (.ref (S.xc ex.c)) d oe) (hf : ∃ vs, oe.data = .fields vs) (hx : ExR S B.F0 ex (.ref (S.xc ex.c)) d)
    (hm : X.mg "isinstance" = none) (hcl : PE (X.suite a ((a, oe) :: pn)) te (tC v)) (hrel : ∀ u, RelV v u → u = cv) (hkit : PySem.W.kitOne S.K (.ref (S.xc ex.c)) cv = some b) (he : PE (X.suite a ((a, oe) :: pn)) e (rdE S B M W .clean fe)) (hg : Gl X "isinstance")
    (hs : starEach [e, te] X.env = (false, eval e X.env) :: starEach [te] X.env) (hs1 : starEach [te] X.env = [(false, eval te X.env)]) (hpl : (backTo pos (starEach [te] X.env)).any (·.1) = false) :
    PE (X.suite a ((a, oe) :: pn)) (.Call (.Name "isinstance" p) [e, te] [] pos) (rdE S B M W .clean (eIsX0 a b fe)) :=
  PE.imp (pe_callB (call_isY (hK ▸ T) hz hf) hg hm (by decide +kernel) (pa_cons he (pa_cons hcl pa_nil hs1) hs) (by decide) (by decide) hs hpl) fun r H Q ⟨g, m, j, P, E, ok, hf, q, xo⟩ => by
    refine ⟨g, m, j, _, E, ok, hf, fun d1 j1 g1 v1 H1 hh l1 ok1 w1 => ?_, xo⟩
    obtain ⟨rfl, pp⟩ := hh
    cases w1
    exact ⟨v, rfl, exr_or hx ok1.b, .inl ⟨cv, b, hrel, hK ▸ hkit, q _ _ g1 _ H1 pp l1 ok1 (.bl _)⟩⟩
theorem isXny {k : Nat} (hX : XT S.K X.mg S.xc tT n names attrs) (hk : (x, k) ∈ names) (hK : X.K = S.K) (hz : Zc (.ref (S.xc ex.c)) d oe) (hf : ∃ vs, oe.data = .fields vs) (hx : ExR S B.F0 ex (.ref (S.xc ex.c)) d)
    (hm : X.mg "isinstance" = none) (he : PE (X.suite a ((a, oe) :: pn)) e (rdE S B M W .clean fe)) (hg : Gl X "isinstance" := by rfl) (hgx : Gl X x := by rfl) (hdb : (x == ("__debug__" : Str)) = false := by decide)
    (hs : starEach [e, .Name x p2] X.env = (false, eval e X.env) :: starEach [.Name x p2] X.env := by rfl) (hs1 : starEach [.Name x p2] X.env = [(false, eval (.Name x p2) X.env)] := by rfl) (hpl : (backTo pos (starEach [.Name x p2] X.env)).any (·.1) = false := by rfl) :
    PE (X.suite a ((a, oe) :: pn)) (.Call (.Name "isinstance" p) [e, .Name x p2] [] pos) (rdE S B M W .clean (eIsX0 a (tT ex.c k) fe)) :=
  isX0y (v := .ref (S.xc k)) (cv := .ref (S.xc k)) (hX.cl _) hK hz hf hx hm (pe_glob (X := X.suite a ((a, oe) :: pn)) hgx (hX.gl _ hk).1 rfl hdb) (fun u h => h) (hX.kit _ (hX.gl _ hk).2) he hg hs hs1 hpl
theorem isXvy (hX : XT S.K X.mg S.xc tT n names attrs) (hK : X.K = S.K) (hz : Zc (.ref (S.xc ex.c)) d oe) (hf : ∃ vs, oe.data = .fields vs) (hx : ExR S B.F0 ex (.ref (S.xc ex.c)) d)
    (hm : X.mg "isinstance" = none) (hv : X.mg "ValueError" = none) (he : PE (X.suite a ((a, oe) :: pn)) e (rdE S B M W .clean fe)) (hg : Gl X "isinstance" := by rfl) (hgx : Gl X "ValueError" := by rfl)
    (hs : starEach [e, .Name "ValueError" p2] X.env = (false, eval e X.env) :: starEach [.Name "ValueError" p2] X.env := by rfl) (hs1 : starEach [.Name "ValueError" p2] X.env = [(false, eval (.Name "ValueError" p2) X.env)] := by rfl) (hpl : (backTo pos (starEach [.Name "ValueError" p2] X.env)).any (·.1) = false := by rfl) :
    PE (X.suite a ((a, oe) :: pn)) (.Call (.Name "isinstance" p) [e, .Name "ValueError" p2] [] pos) (rdE S B M W .clean (eIsX0 a true fe)) :=
  isX0y (v := .ty "ValueError") (cv := .type "ValueError") (hX.cl _) hK hz hf hx hm (pe_bltn (X := X.suite a ((a, oe) :: pn)) hgx hv PyProof.Rows.Boot.«ValueError» rfl) (fun u h => h) (hX.kitV _) he hg hs hs1 hpl
theorem isXty {es : List Expr} {k1 : Nat} {pt : Pos} (ks : List Nat) (hX : XT S.K X.mg S.xc tT n names attrs) (hks : ∀ k ∈ ks, k < n) (hK : X.K = S.K) (hz : Zc (.ref (S.xc ex.c)) d oe) (hf : ∃ vs, oe.data = .fields vs) (hx : ExR S B.F0 ex (.ref (S.xc ex.c)) d)
    (hm : X.mg "isinstance" = none) (he : PE (X.suite a ((a, oe) :: pn)) e (rdE S B M W .clean fe)) (hcl : PA (X.suite a ((a, oe) :: pn)) es (fun _ H Q => Q (ks.map fun k => V.ref (S.xc k)) H)) (hlen : ks.length ≤ 1000 := by decide) (hg : Gl X "isinstance" := by rfl)
    (hs : starEach [e, .Tuple es k1 pt] X.env = (false, eval e X.env) :: starEach [.Tuple es k1 pt] X.env := by rfl) (hs1 : starEach [.Tuple es k1 pt] X.env = [(false, eval (.Tuple es k1 pt) X.env)] := by rfl) (hpl : (backTo pos (starEach [.Tuple es k1 pt] X.env)).any (·.1) = false := by rfl) :
    PE (X.suite a ((a, oe) :: pn)) (.Call (.Name "isinstance" p) [e, .Tuple es k1 pt] [] pos) (rdE S B M W .clean (eIsX0 a (ks.any (tT ex.c)) fe)) :=
  PE.imp (pe_callB (call_isY (hK ▸ hX.cl ex.c) hz hf) hg hm (by decide +kernel) (pa_cons he (pa_cons (pe_tupF hcl) pa_nil hs1) hs) (by decide) (by decide) hs hpl) fun r H Q ⟨g, m, j, P, E, ok, hf, q, xo⟩ => by
    refine ⟨g, m, j, _, E, ok, hf, fun d1 j1 g1 v1 H1 hh l1 ok1 w1 => ?_, xo⟩
    obtain ⟨rfl, pp⟩ := hh
    cases w1
    refine ⟨by rw [List.length_map, sizeLine_eq]; omega, fun tp o ntp hdo => ?_⟩
    obtain ⟨n1, n2, n3, n4⟩ := ok1.b.hn ntp
    have l2 : Le g1 (g1.frz tp (.frz o (.tup (ks.map fun k => V.ref (S.xc k))))) := Le.frz ok1.b.fg n2
    have ok2 := ok1.b.frz (.frz o (.tup (ks.map fun k => V.ref (S.xc k)))) ntp
    exact ⟨_, rfl, exr_or hx ok2, .inr ⟨tp, o, _, ks.map fun k => .ref (S.xc k), _, rfl, upd_same, fun us hus => vals_refs ks us hus, hK ▸ hX.any ex.c ks hks, q _ _ _ _ _ pp (l1.trans l2) ⟨ok2, ok1.s.le l2⟩ (.bl _)⟩⟩
end
/-! xs.index(b), a list of truths -/
def indexB : D → D → Option D
  | .lst xs, .bl k => match bls? xs with
    | some ns => match ns.idxOf? k with
      | some n => some (.int (n : Nat))
      | none => none
    | none => none
  | _, _ => none
section
variable {S : Js J} {B : Bs} {M : Nat → Bool} {W : WX} {X : Cx} {e o : Expr} {pos p apos : Pos} {fo fe : Ev J}
end
end Mp

/-! O7: d.get(k, e), d an owned dict. -/
namespace Mp
open PySem PySem.Spec L2
open PyProof.Rows hiding St
variable {J J' : Type}
section
variable {S : Js J} {B : Bs} {M : Nat → Bool} {W : WX} {X : Cx} {b c : Expr} {pos p np ap : Pos} {fb fc : Ev J} {x : Str}
def eDg (i : Nat) (fk fz : Ev J) (m : Sd) (j : J) (P : D → J → Prop) (E : XP J) : Prop := ∃ kds, m[i]? = some (some (.dct kds)) ∧
  fk m j (fun kd j1 => fz m j1 (fun z j2 => ∃ k, keyD kd = some k ∧ P ((valD kds k).getD z) j2) E) E
instance {i : Nat} {fk fz : Ev J} [h1 : MoE fk] [h2 : MoE fz] : MoE (eDg i fk fz) := ⟨fun ⟨k, e, h⟩ q x => ⟨k, e, h1.mo h (fun _ _ h => h2.mo h (fun _ _ ⟨k, a, p⟩ => ⟨k, a, q _ _ p⟩) x) x⟩⟩
end
end Mp

/-! O8: sorted(d), d a dict of ints. -/
namespace Mp
open PySem PySem.Spec L2 SrtO
open PyProof.Rows hiding St
section
variable {prog : Program} {w : World} {A : Around} {E : Value → Shared → Prop} {s : Shared} {T : String} {r d : Addr} {n : Nat} {Pi : Nat → Value → Prop} {OK : Heap → Prop}
/-- the list that collect makes lies in the new heap -/
def GotD (Pi : Nat → Value → Prop) (n : Nat) (s : Shared) (q : Result) (s' : Shared) : Prop := ∃ (h' : Heap) (tk : Nat) (acc : Array Value) (c : Nat), q = .ok (.ret (.ref s.heap.objs.size)) ∧ s' = { s with heap := h', toks := tk } ∧
  (∀ b o, s.heap.get? b = some o → h'.get? b = some o) ∧ h'.get? s.heap.objs.size = some { cls := .type "list", dict := none, data := .seq acc c, slots := #[] } ∧ PySem.ItemsOf Pi acc n
end
section
variable {X : Cx}
def rSortedDc : List V → Hp → VK → Prop := fun vs H Q => ∃ (a : Addr) (kvs : List (Key × V)) (ns : List Int), vs = [V.ref a] ∧ H a = some (.dK kvs) ∧ kvs.map Prod.fst = ns.map Sum.inl ∧
  ∀ (ns' : List Int) (p : Addr), ns'.Perm ns → ns'.Pairwise (· ≤ ·) → H p = none → Q (.ref p) (upd H p (.lst (ns'.map V.int)))
end
def keysI : List (Key × D) → Option (List Int)
  | [] => some []
  | (.inl i, _) :: r => (keysI r).map (i :: ·)
  | _ => none
/-- sorted(d): the keys in order -/
def sortDcB : List D → Option D
  | [.dct kds] => match keysI kds with | some ns => some (.lst ((isort ns).map D.int)) | none => none
  | _ => none
section
variable {J : Type} {S : Js J} {B : Bs} {M : Nat → Bool} {W : WX} {X : Cx} {pos p np : Pos} {x : Str}
end
end Mp

/-! R4: < of nested tuples of ints that are alike. -/
namespace Mp
open PySem PySem.Spec L2
open PyProof.Rows hiding St
variable {J : Type}
def rLtP (K : PySem.W.Frag) : R2 := fun x y H Q => ∃ p q, Dp K H x p ∧ Dp K H y q ∧ PySem.W.alike p q = true ∧ p ≠ .none ∧ p.depth ≤ 60 ∧ Q (.bl (PySem.W.dataLt p q)) H
noncomputable def ltPD (x y : D) : Option D := match py x, py y with
  | some p, some q => open Classical in if PySem.W.alike p q = true ∧ p ≠ .none ∧ p.depth ≤ 60 ∧ p.hasDict = false ∧ q.hasDict = false then some (.bl (PySem.W.dataLt p q)) else none
  | _, _ => none
section
variable {S : Js J} {X : Cx}
end
end Mp

/-! R6: sorted of a list of data that are alike (tuples of ints). -/
namespace Mp
open PySem PySem.Spec L2
open PyProof.Rows hiding St
open PySem.W (AllAlike Sortable dataLe EachIs sortLe)
variable {J : Type}
def Srtb (ps : List PyData) : Prop := AllAlike ps ∧ Sortable ps ∧ ∀ p ∈ ps, p.depth ≤ 60
def rSortP (K : PySem.W.Frag) : List V → Hp → VK → Prop := fun vs H Q => ∃ a xs ps, vs = [V.ref a] ∧ SqL K H a xs ∧ DpAll K H xs ps ∧ Srtb ps ∧
  ∀ p, H p = none → Q (.ref p) (upd H p (.lst (((xs.zip ps).mergeSort (dataLe false Prod.snd)).map Prod.fst)))
section
variable {X : Cx} {pins : List (Addr × Obj)} {σ : St} {H : Hp} {s : Shared}
theorem each_rel : ∀ {xs : List V} {us : List Value} {ps : List PyData}, Vals xs us → xs.length = ps.length → EachIs (fun u (b : V × PyData) => RelV b.1 u) us (xs.zip ps)
  | _, _, [], .nil, _ => .nil
  | _, _, p :: ps, .cons h t, e => .cons h (each_rel t (by simpa using e))
theorem each_reads (I : Inv X pins σ H s) : ∀ {xs : List V} {us : List Value} {ps : List PyData}, Vals xs us → DpAll X.K H xs ps → EachIs (fun u (b : V × PyData) => ∃ as, Reads s.heap u b.2 as) us (xs.zip ps)
  | _, _, _, .nil, .nil => .nil
  | _, _, _, .cons h t, .cons d e => .cons (Dp.reads I _ _ _ d h) (each_reads I t e)
theorem each_vals : ∀ {us : List Value} {bs : List (V × PyData)}, EachIs (fun u (b : V × PyData) => RelV b.1 u) us bs → Vals (bs.map Prod.fst) us
  | _, _, .nil => .nil
  | _, _, .cons h t => .cons h (each_vals t)
theorem zip_snd : ∀ {xs : List V} {ps : List PyData}, xs.length = ps.length → (xs.zip ps).map Prod.snd = ps
  | [], [], _ => rfl
  | x :: xs, p :: ps, e => by rw [List.zip_cons_cons, List.map_cons, zip_snd (by simpa using e)]
  | [], _ :: _, e => by cases e
  | _ :: _, [], e => by cases e
theorem dpAll_len : ∀ {K : PySem.W.Frag} {xs : List V} {ps : List PyData}, DpAll K H xs ps → xs.length = ps.length
  | _, _, _, .nil => rfl
  | _, _, _, .cons _ t => by simp [dpAll_len t]
theorem cr_sortP (hu : X.A.units + 64 < cLine) : CallR X (.builtin "sorted") (rSortP X.K) := by
  intro pins s σ H vs us Q I r h
  obtain ⟨a, xs, ps, rfl, hs, hd, ⟨s1, s2, s3⟩, q⟩ := h
  obtain ⟨its, rv, hl, hz⟩ := I.list hs
  obtain ⟨u, rfl, ru⟩ := vals1 r
  obtain rfl : u = Value.ref a := ru
  have le := dpAll_len hd
  have zs := zip_snd le
  have zl : (xs.zip ps).length = xs.length := by rw [List.length_zip, le, Nat.min_self]
  refine PySem.W.sorted_data (β := V × PyData) (bs := xs.zip ps) (enc := Prod.snd) (R := fun u b => RelV b.1 u) hl.isList (each_rel rv le) (each_reads I rv hd) (by rw [zs]; exact s1) (by rw [zs]; exact s2) (by rw [zl]; exact hz)
    (fun b hb => ?_) fun out hlen ho => ?_
  · have hb2 : b.2 ∈ ps := by rw [← zs]; exact List.mem_map.mpr ⟨b, hb, rfl⟩
    have := s3 _ hb2
    omega
  · obtain ⟨e, he⟩ := sortedAll_at s.heap its (List.toArray out)
    refine ⟨.ref (s.heap.objs.size + 1), _, I.laid (t' := s.toks) (o := .lst (((xs.zip ps).mergeSort (dataLe false Prod.snd)).map Prod.fst)) (fun b o q => sortedAll_old q) (Nat.le_succ _) ⟨?_, out, e, each_vals ho, he⟩, rfl, q _ (I.hok.fresh (Nat.le_succ _))⟩
    rw [List.length_map, List.length_mergeSort, zl]; exact hz
end
/-! on data -/
def pyG (d : D) : PyData := (py d).getD .none
def leP (d e : D) : Bool := dataLe false pyG d e
noncomputable def sortP : List D → Option D
  | [.lst xs] => match pyL xs with
    | some ps => open Classical in if Srtb ps ∧ PyData.hasDictAll ps = false then some (.lst (xs.mergeSort leP)) else none
    | none => none
  | _ => none
theorem pyL_G : ∀ {xs : List D} {ps : List PyData}, pyL xs = some ps → xs.map pyG = ps
  | [], ps, e => by unfold pyL at e; cases e; rfl
  | x :: xs, ps, e => by
    unfold pyL at e
    split at e
    · rename_i y ys h1 h2
      cases e
      rw [List.map_cons, pyL_G h2]
      unfold pyG
      rw [h1]; rfl
    · cases e
/-- the same order of values and of data -/
theorem sort_rel {S : Js J} {F : Hp} : ∀ {xs : List D} {vs : List V}, RpL S F xs vs → RpL S F (xs.mergeSort leP) (((vs.zip (xs.map pyG)).mergeSort (dataLe false Prod.snd)).map Prod.fst) := fun {xs vs} h => by
  have hl := h.length
  let ts : List (D × V × PyData) := xs.zip (vs.zip (xs.map pyG))
  have t0 : ∀ {xs : List D} {vs : List V}, RpL S F xs vs → ∀ t ∈ xs.zip (vs.zip (xs.map pyG)), Rp S F t.1 t.2.1 ∧ t.2.2 = pyG t.1 := by
    intro xs vs h
    induction xs generalizing vs with
    | nil => intro t ht; cases ht
    | cons x xs ih =>
      cases h with
      | cons h1 h2 =>
        intro t ht
        rcases List.mem_cons.mp ht with rfl | ht
        · exact ⟨h1, rfl⟩
        · exact ih h2 t ht
  have e1 : ts.map Prod.fst = xs := List.map_fst_zip (by simp [hl])
  have e2 : ts.map Prod.snd = vs.zip (xs.map pyG) := List.map_snd_zip (by simp [hl])
  have m1 : (ts.mergeSort fun a b => leP a.1 b.1).map Prod.fst = xs.mergeSort leP := by
    rw [List.map_mergeSort (s := leP) (fun a _ b _ => rfl), e1]
  have m2 : (ts.mergeSort fun a b => leP a.1 b.1).map Prod.snd = (vs.zip (xs.map pyG)).mergeSort (dataLe false Prod.snd) := by
    rw [List.map_mergeSort (s := dataLe false Prod.snd) (fun a ha b hb => ?_), e2]
    have h1 := (t0 h a ha).2
    have h2 := (t0 h b hb).2
    show dataLe false pyG a.1 b.1 = dataLe false Prod.snd a.2 b.2
    unfold dataLe sortLe
    simp only [h1, h2]
  rw [← m1, ← m2, List.map_map]
  have all : ∀ t ∈ ts.mergeSort fun a b => leP a.1 b.1, Rp S F t.1 t.2.1 := fun t ht => (t0 h t (List.mem_mergeSort.mp ht)).1
  generalize (ts.mergeSort fun a b => leP a.1 b.1) = zs at all
  induction zs with
  | nil => exact .nil
  | cons z zs ih => exact .cons (all z (by simp)) (ih fun t ht => all t (by simp [ht]))
section
variable {S : Js J} {B : Bs} {M : Nat → Bool} {W : WX} {X : Cx} {e : Expr} {es : List Expr} {pos p : Pos} {fr : Av J} {ci : Bool}
end
end Mp

/-! R8: texts: join, split, a sign in a text, int of a text, f-strings, a text some times, keys of a dict. -/
namespace Mp
open PySem PySem.Spec L2
open PyProof.Rows hiding St
variable {J : Type}
def strs? : List D → Option (List Str)
  | [] => some []
  | .str x :: r => match strs? r with | some ys => some (x :: ys) | none => none
  | _ => none
theorem strs?_some : ∀ {xs : List D} {ys : List Str}, strs? xs = some ys → xs = ys.map D.str
  | [], ys, e => by cases e; rfl
  | d :: r, ys, e => by
    cases d with
    | str x =>
      unfold strs? at e
      split at e
      · rename_i zs h
        cases e
        rw [strs?_some h]; rfl
      · cases e
    | _ => cases e
theorem strs?_map : ∀ ys : List Str, strs? (ys.map D.str) = some ys
  | [] => rfl
  | y :: ys => by
    show (match strs? (ys.map D.str) with | some zs => some (y :: zs) | none => none) = _
    rw [strs?_map ys]
def joinD : D → D → Option D
  | .str a, .lst ds => match strs? ds with | some ys => if (ys.map (·.length)).sum + ys.length * a.length ≤ LINE then some (.str (Txt.join a ys)) else none | none => none
  | .str a, .tup ds => match strs? ds with | some ys => if (ys.map (·.length)).sum + ys.length * a.length ≤ LINE then some (.str (Txt.join a ys)) else none | none => none
  | _, _ => none
def splitD : D → D → Option D
  | .str a, .str b => if (b.length == 0) = false ∧ a.length + 2 ≤ LINE then some (.lst ((Txt.split a b).map D.str)) else none
  | _, _ => none
/-- a method of a text, of one argument -/
def eMs (φ : D → D → Option D) (fo fe : Ev J) (m : Sd) (j : J) (P : D → J → Prop) (E : XP J) : Prop := fo m j (fun x j1 => (∃ a, x = .str a) ∧ fe m j1 (fun y j2 => ∃ z, φ x y = some z ∧ P z j2) E) E
instance {φ : D → D → Option D} {fo fe : Ev J} [h1 : MoE fo] [h2 : MoE fe] : MoE (eMs φ fo fe) := ⟨fun h q x => h1.mo h (fun _ _ ⟨e, p⟩ => ⟨e, h2.mo p (fun _ _ ⟨z, e, p⟩ => ⟨z, e, q _ _ p⟩) x⟩) x⟩
section
variable {S : Js J} {B : Bs} {M : Nat → Bool} {W : WX} {X : Cx} {e o : Expr} {es : List Expr} {pos p apos np : Pos} {fr : Av J} {fo fe : Ev J} {ci : Bool} {x : Str}
theorem line24 : LINE ≤ 16777216 := by have := line_ok; rw [sizeLine_eq] at this; exact this
theorem e_join (hK : X.K = S.K) (ho : PE X o (rdE S B M W .clean fo)) (he : PE X e (rdE S B M W .clean fe)) (hs : starEach [e] X.env = [(false, eval e X.env)] := by rfl) (hbase : attributeBase o "join" X.env (eval o X.env) = eval o X.env := by rfl) (hline : (apos.endLine == pos.line) = true := by rfl) :
    PE X (.Call (.Attribute o "join" apos) [e] [] pos) (rdE S B M W .clean (eMs joinD fo fe)) :=
  PE.imp (pe_join ho he hs hbase hline) fun r H Q ⟨g, m, j, P, E, ok, hf, q, xo⟩ => by
    refine ⟨g, m, j, _, E, ok, hf, fun d j1 g1 v H1 h1 l1 ok1 w => ?_, xo⟩
    obtain ⟨⟨a, rfl⟩, hh⟩ := h1
    refine ⟨⟨a, str_of w⟩, g1, m, _, _, E, ok1, hh, fun d2 j2 g2 v2 H2 h2 l2 ok2 w2 => ?_, xo.le l1.f⟩
    obtain ⟨z, hz, hP⟩ := h2
    have key : ∀ {ds : List D} {vs : List V} {z : D}, RpL S g2.F ds vs → (match strs? ds with | some ys => if (ys.map (·.length)).sum + ys.length * a.length ≤ LINE then some (D.str (Txt.join a ys)) else none | none => none) = some z → ∃ ys : List Str, vs = ys.map V.str ∧ (ys.map (·.length)).sum + ys.length * a.length ≤ 16777216 ∧ z = .str (Txt.join a ys) := fun {ds vs z} rl h => by
      split at h
      · rename_i ys hy
        split at h
        · rename_i hc
          cases h
          have := strs?_some hy
          subst this
          exact ⟨ys, rl.of_strs, Nat.le_trans hc line24, rfl⟩
        · cases h
      · cases h
    have su : Same g2.F H2 := ok2.b.sub true
    cases d2 with
    | lst ds =>
      obtain ⟨b, vs, rfl, hb, rl⟩ := lst_of w2
      obtain ⟨ys, rfl, hl, rfl⟩ := key rl hz
      exact ⟨a, b, ys, str_of w, rfl, .inl (.of (su _ _ hb)), hl, q _ _ g2 _ _ hP (l1.trans l2) ok2 (.str _)⟩
    | tup ds =>
      obtain ⟨b, vs, rfl, hb, rl⟩ := tup_of w2
      obtain ⟨ys, rfl, hl, rfl⟩ := key rl hz
      exact ⟨a, b, ys, str_of w, rfl, .inr (by rw [hK]; exact (hb.same su).t), hl, q _ _ g2 _ _ hP (l1.trans l2) ok2 (.str _)⟩
    | _ => cases hz
theorem e_split (ho : PE X o (rdE S B M W .clean fo)) (he : PE X e (rdE S B M W .clean fe)) (hs : starEach [e] X.env = [(false, eval e X.env)] := by rfl) (hbase : attributeBase o "split" X.env (eval o X.env) = eval o X.env := by rfl) (hline : (apos.endLine == pos.line) = true := by rfl) :
    PE X (.Call (.Attribute o "split" apos) [e] [] pos) (rdE S B M W .fresh (eMs splitD fo fe)) :=
  PE.imp (pe_split ho he hs hbase hline) fun r H Q ⟨g, m, j, P, E, ok, hf, q, xo⟩ => by
    refine ⟨g, m, j, _, E, ok, hf, fun d j1 g1 v H1 h1 l1 ok1 w => ?_, xo⟩
    obtain ⟨⟨a, rfl⟩, hh⟩ := h1
    refine ⟨⟨a, str_of w⟩, g1, m, _, _, E, ok1, hh, fun d2 j2 g2 v2 H2 h2 l2 ok2 w2 => ?_, xo.le l1.f⟩
    obtain ⟨z, hz, hP⟩ := h2
    cases d2 with
    | str b =>
      unfold splitD at hz
      simp only at hz
      split at hz
      · rename_i hc
        cases hz
        refine ⟨a, b, str_of w, by rw [str_of w2], hc.1, Nat.le_trans hc.2 line_ok, fun p np => ?_⟩
        obtain ⟨n1, n2, n3, n4⟩ := ok2.b.hn np
        exact q _ _ (g2.see p (.lst _)) _ _ hP ((l1.trans l2).trans (Le.see n2)) ⟨ok2.b.see _ np, ok2.s.le (Le.see n2)⟩ ⟨p, rfl, (l1.trans l2).g.free n2, n1, .inl ⟨_, _, rfl, upd_same, RpL.strs _⟩⟩
      · cases hz
    | _ => cases hz
/-! a sign in a text -/
def inS : D → D → Option D
  | .str x, .str z => match x.cps.toList with | [c] => some (.bl (decide (c ∈ z.cps.toList))) | _ => none
  | _, _ => none
theorem s_inS : OpS S (fun x y H Q => ∃ (c : Nat) (z : Str), x = .str ⟨#[c]⟩ ∧ y = .str z ∧ Q (.bl (decide (c ∈ z.cps.toList))) H) inS ci .clean := by
  intro B g H j d1 d2 d v1 v2 Q ok h1 h2 e q
  unfold inS at e
  split at e
  · rename_i x z
    split at e
    · rename_i c hc
      cases e
      have ex : x = ⟨#[c]⟩ := by
        cases x with
        | mk cps => congr 1; exact Array.ext' hc
      subst ex
      exact ⟨c, z, str_of h1, str_of h2, ans (B := B) ok q fun _ => .bl _⟩
    · cases e
  · cases e
/-! int of a text -/
def intS : List D → Option D
  | [.str a] => match PySem.intText? a with | some n => if a.length ≤ 640 then some (.int n) else none | none => none
  | _ => none
theorem s_intS : CallS S (fun xs H Q => ∃ a n, xs = [.str a] ∧ PySem.intText? a = some n ∧ a.length ≤ 640 ∧ Q (.int n) H) intS ci .clean := by
  intro B g H j ds d vs Q ok h e q
  unfold intS at e
  split at e
  · rename_i a
    split at e
    · rename_i n hn
      split at e
      · rename_i hl
        cases e
        obtain ⟨v, rfl, k⟩ := one_of h
        exact ⟨a, n, by rw [str_of k], hn, hl, ans (B := B) ok q fun _ => .int _⟩
      · cases e
    · cases e
  · cases e
theorem kIntS (hm : X.mg "int" = none) (ha : PA X (e :: es) (rdA S B M W ci fr)) (hg : Gl X "int" := by rfl) (he : starEach (e :: es) X.env = (false, eval e X.env) :: starEach es X.env := by rfl) (hpl : (backTo pos (starEach es X.env)).any (·.1) = false := by rfl) :
    PE X (.Call (.Name "int" p) (e :: es) [] pos) (rdE S B M W .clean (eB intS fr)) := kT call_int_str s_intS hm bt_int ha hg (by decide) (by decide) he hpl
/-! a text no times or once -/
def rMulS : R2 := fun x y H Q => ∃ a n, x = .str a ∧ y = .int n ∧ ((n = 0 ∧ Q (.str Str.empty) H) ∨ (n = 1 ∧ Q (.str a) H))
def mulS : D → D → Option D
  | .str a, .int n => if n = 0 then some (.str Str.empty) else if n = 1 then some (.str a) else none
  | _, _ => none
/-! f-strings -/
theorem slen (a b : Str) : (a ++ b).length = a.length + b.length := Array.size_append ..
def fmtD : D → Option D
  | .str y => if y.length ≤ LINE then some (.str y) else none
  | .int i => if sm i then some (.str (toString i)) else none
  | _ => none
def jsC : List (Ev J) → Str → Sd → J → (Str → J → Prop) → XP J → Prop
  | [], acc, m, j, P, E => P acc j
  | f :: fs, acc, m, j, P, E => f m j (fun d j1 => ∃ y, d = .str y ∧ y.length ≤ LINE ∧ jsC fs (acc ++ y) m j1 P E) E
def eJs (fs : List (Ev J)) (m : Sd) (j : J) (P : D → J → Prop) (E : XP J) : Prop := jsC fs Str.empty m j (fun x j1 => P (.str x) j1) E
class MoEs (fs : List (Ev J)) : Prop where
  mo : ∀ {acc : Str} {m : Sd} {j : J} {P P' : Str → J → Prop} {E E' : XP J}, jsC fs acc m j P E → (∀ x j, P x j → P' x j) → (∀ e m j, E e m j → E' e m j) → jsC fs acc m j P' E'
instance : MoEs ([] : List (Ev J)) := ⟨fun h q _ => q _ _ h⟩
instance {f : Ev J} {fs : List (Ev J)} [h1 : MoE f] [h2 : MoEs fs] : MoEs (f :: fs) := ⟨fun h q x => h1.mo h (fun _ _ ⟨y, e, l, p⟩ => ⟨y, e, l, h2.mo p q x⟩) x⟩
instance {fs : List (Ev J)} [h : MoEs fs] : MoE (eJs fs) := ⟨fun p q x => h.mo p (fun _ _ z => q _ _ z) x⟩
inductive PFs (S : Js J) (B : Bs) (M : Nat → Bool) (W : WX) (X : Cx) : List Expr → List (Ev J) → Prop
  | nil : PFs S B M W X [] []
  | cons {e : Expr} {f : Ev J} {es : List Expr} {fs : List (Ev J)} : PE X e (rdE S B M W .clean f) → PFs S B M W X es fs → PFs S B M W X (e :: es) (f :: fs)
/-! the keys of an owned dict -/
def keyDs (kds : List (Key × D)) : List D := kds.map fun p => match p.1 with | .inl i => .int i | .inr s => .str s
def listDcB : List D → Option D
  | [.dct kds] => some (.lst (keyDs kds))
  | _ => none
theorem keyDs_rp {S : Js J} {F : Hp} : ∀ (kds : List (Key × D)) (kvs : List (Key × V)), kds.map Prod.fst = kvs.map Prod.fst → RpL S F (keyDs kds) (kvs.map fun kv => kV kv.1)
  | [], [], _ => .nil
  | p :: kds, q :: kvs, e => by
    rw [List.map_cons, List.map_cons] at e
    injection e with e1 e2
    have h := keyDs_rp (S := S) (F := F) kds kvs e2
    obtain ⟨k, d⟩ := p
    obtain ⟨k', v⟩ := q
    obtain rfl : k = k' := e1
    cases k with
    | inl i => exact .cons (.int i) h
    | inr s => exact .cons (.str s) h
  | [], _ :: _, e => by cases e
  | _ :: _, [], e => by cases e
theorem bt_listS : bootBuiltins "list" = some (.type "list") := by decide +kernel
theorem loO {i : Nat} (hm : X.mg "list" = none) (hx : MtN X i x := by exact mtN _) (hM : M i = true := by rfl) (hg : Gl X "list" := by rfl) (hc : X.calm = true := by rfl) (he : starEach [.Name x np] X.env = [(false, eval (.Name x np) X.env)] := by rfl) :
    PE X (.Call (.Name "list" p) [.Name x np] [] pos) (rdE S B M W .fresh (eB listDcB (aCons (eVar i) aNil))) :=
  PE.imp (pe_callTy (call_listD hc) hg hm bt_listS (pa_cons hx.pe pa_nil he) (by decide) (by decide) he rfl) fun R H Q ⟨g, m, j, P, E, ok, ⟨d0, h0, z, hz, pz⟩, q, xo⟩ => by
    obtain ⟨a, hr, ho⟩ := ok.s.ow i _ h0 hM
    obtain ⟨hF, ⟨ds, vs, rfl, e, t⟩ | ⟨kds, kvs, rfl, e, l, t⟩ | ⟨kds, kvs, rfl, e, l, t⟩⟩ := ho
    · cases hz
    · cases hz
      refine ⟨_, hr, a, kvs, rfl, .inl (ok.b.gh _ _ e), fun p hn => ?_⟩
      obtain ⟨n1, n2, n3, n4⟩ := ok.b.hn hn
      exact q _ _ (g.see p (.lst _)) _ _ pz (Le.see n2) ⟨ok.b.see _ hn, ok.s.le (Le.see n2)⟩ ⟨p, rfl, n2, n1, .inl ⟨_, _, rfl, upd_same, keyDs_rp kds kvs l⟩⟩
    · cases hz
end
end Mp

/-! R9: a text some times, a sign that is not in a text. -/
namespace Mp
open PySem PySem.Spec L2
open PyProof.Rows hiding St
variable {J : Type}
def repX (a : Str) (n : Nat) : Str := ⟨(List.replicate n a.cps).foldl (· ++ ·) #[]⟩
theorem rep_fold (c : Array Nat) : ∀ (n : Nat) (acc : Array Nat), ((List.replicate n c).foldl (· ++ ·) acc).size = acc.size + n * c.size
  | 0, acc => by simp
  | n + 1, acc => by
    rw [List.replicate_succ, List.foldl_cons, rep_fold c n, Array.size_append, Nat.succ_mul]
    omega
theorem repX_len (a : Str) (n : Nat) : (repX a n).length = n * a.length := by
  show ((List.replicate n a.cps).foldl (· ++ ·) #[]).size = n * a.cps.size
  rw [rep_fold]; simp
section
variable {S : Js J} {B : Bs} {M : Nat → Bool} {W : WX} {X : Cx} {e o : Expr} {es : List Expr} {pos p apos np : Pos} {fr : Av J} {fo fe : Ev J} {ci : Bool} {x : Str}
def rMulT : R2 := fun x y H Q => ∃ (a : Str) (n : Nat), x = .str a ∧ y = .int (n : Nat) ∧ 2 ≤ n ∧ 0 < a.length ∧ n * a.length ≤ sizeLine ∧ Q (.str (repX a n)) H
theorem op_mulT : OpR X (binaryOp .Mult) rMulT := by
  intro pins s σ H x y v u Q I rx ry h
  obtain ⟨a, n, rfl, rfl, h2, h1, hl, h⟩ := h
  obtain ⟨t, rfl⟩ := rx
  obtain ⟨t', rfl⟩ := ry
  have hs := sizeLine_eq
  have hn : n ≤ sizeLine := Nat.le_trans (Nat.le_mul_of_pos_right n h1) hl
  rw [sizeLine_eq] at hn
  have hl2 : n * a.length ≤ sizeLine := hl
  rw [sizeLine_eq] at hl2
  have htl : ∀ k, k ≤ sizeLine → Builtin.Str.tooLong k = false := fun k hk => decide_eq_false (by omega)
  refine PySem.P.mul_str (by simp; omega) (fun _ _ => ?_) (fun _ _ => ?_) ?_
  · have : (a.length : Int) ≤ (2 ^ 63 - 1) / (n : Int) := (Int.le_ediv_iff_mul_le (by omega)).mpr (by
      have : (a.length : Int) * (n : Int) = ((n * a.length : Nat) : Int) := by rw [Nat.mul_comm]; simp
      omega)
    omega
  · refine htl _ ?_
    rw [Int.toNat_natCast, Nat.mul_comm]
    exact hl
  · have c1 : ¬ ((n : Int) < 1) := by omega
    have c2 : ¬ (((n : Int) == 1 || a.length == 0) = true) := by simp; omega
    rw [if_neg c1, if_neg c2, Int.toNat_natCast]
    exact ⟨(by show (repX a n).length ≤ sizeLine; rw [repX_len]; exact hl), .str (repX a n), H, I.tok _, ⟨_, rfl⟩, h⟩
def mulT : D → D → Option D
  | .str a, .int n => if 2 ≤ n ∧ 0 < a.length ∧ n * a.length ≤ LINE then some (.str (repX a n.toNat)) else none
  | _, _ => none
theorem s_mulT : OpS S rMulT mulT ci .clean := by
  intro B g H j d1 d2 d v1 v2 Q ok h1 h2 e q
  unfold mulT at e
  split at e
  · rename_i a n
    split at e
    · rename_i c
      cases e
      refine ⟨a, n.toNat, str_of h1, by rw [int_of h2]; congr 1; omega, by omega, c.2.1, ?_, ans (B := B) ok q fun _ => .str _⟩
      have hn : ((n.toNat : Nat) : Int) = n := by omega
      have h3 := c.2.2
      rw [← hn] at h3
      have : n.toNat * a.length ≤ LINE := by exact_mod_cast h3
      exact Nat.le_trans this line_ok
    · cases e
  · cases e
theorem bMulT {a b : Expr} {fa fb : Ev J} (ha : PE X a (rdE S B M W .mix fa)) (hb : PE X b (rdE S B M W .mix fb)) : PE X (.BinOp a .Mult b pos) (rdE S B M W .clean (eOp mulT fa fb)) := e_bin (ci := false) op_mulT s_mulT ha hb
/-! a sign that is not in a text -/
def ninS : D → D → Option D
  | .str x, .str z => match x.cps.toList with | [c] => some (.bl (!decide (c ∈ z.cps.toList))) | _ => none
  | _, _ => none
theorem s_ninS : OpS S (fun x y H Q => ∃ (c : Nat) (z : Str), x = .str ⟨#[c]⟩ ∧ y = .str z ∧ Q (.bl (!decide (c ∈ z.cps.toList))) H) ninS ci .clean := by
  intro B g H j d1 d2 d v1 v2 Q ok h1 h2 e q
  unfold ninS at e
  split at e
  · rename_i x z
    split at e
    · rename_i c hc
      cases e
      have ex : x = ⟨#[c]⟩ := by
        cases x with
        | mk cps => congr 1; exact Array.ext' hc
      subst ex
      exact ⟨c, z, str_of h1, str_of h2, ans (B := B) ok q fun _ => .bl _⟩
    · cases e
  · cases e
/-! sorted of an owned list of alike data: the items are shared -/
theorem srO {i : Nat} (hK : X.K = S.K) (hu : X.A.units + 64 < cLine) (hm : X.mg "sorted" = none) (hx : MtN X i x := by exact mtN _) (hM : M i = true := by rfl) (hg : Gl X "sorted" := by rfl) (he : starEach [.Name x np] X.env = [(false, eval (.Name x np) X.env)] := by rfl) :
    PE X (.Call (.Name "sorted" p) [.Name x np] [] pos) (rdE S B M W .fresh (eB sortP (aCons (eVar i) aNil))) :=
  PE.imp (pe_callB (cr_sortP hu) hg hm bt_sorted (pa_cons hx.pe pa_nil he) (by decide) (by decide) he rfl) fun R H Q ⟨g, m, j, P, E, ok, ⟨d0, h0, z, hz, pz⟩, q, xo⟩ => by
    obtain ⟨a, hr, ho⟩ := ok.s.ow i _ h0 hM
    obtain ⟨hF, ⟨ds, vs, rfl, e, t⟩ | ⟨kds, kvs, rfl, e, l, t⟩ | ⟨kds, kvs, rfl, e, l, t⟩⟩ := ho
    · unfold sortP at hz
      simp only at hz
      split at hz
      · rename_i ps hp
        split at hz
        · rename_i hc
          cases hz
          have hG := pyL_G hp
          rw [hK]
          refine ⟨_, hr, a, vs, ps, rfl, .of (ok.b.gh _ _ e), DpAll_mono (ok.b.sub true) (dpl_of t hp hc.2), hc.1, fun p np => ?_⟩
          rw [← hG]
          exact ansL (B := B) (k := true) ok.b (fun g' v H' l1 ok' w => q _ _ g' _ _ pz l1 ⟨ok', ok.s.le l1⟩ w) (sort_rel t) np
        · cases hz
      · cases hz
    · cases hz
    · cases hz
end
end Mp

namespace Lw
open PySem PySem.Spec L2 Mp
open PyProof.Rows hiding St
def top (i : Nat) : Stmt := PySem.Challenge.pw_blockturns_k72_other_texts_refused.main.body.getD i (.Pass ⟨0, 0, 0, 0⟩)

def bnames : List Str := ["ValueError", "abs", "all", "bool", "enumerate", "int", "isinstance", "len", "list", "max", "range", "repr", "sorted", "str", "sum", "tuple"]
def Blt (mg : Str → Option Value) : Prop := ∀ x ∈ bnames, mg x = none
theorem h_ValueError : ("ValueError" : Str) ∈ bnames := by decide +kernel
theorem h_abs : ("abs" : Str) ∈ bnames := by decide +kernel
theorem h_all : ("all" : Str) ∈ bnames := by decide +kernel
theorem h_bool : ("bool" : Str) ∈ bnames := by decide +kernel
theorem h_enumerate : ("enumerate" : Str) ∈ bnames := by decide +kernel
theorem h_int : ("int" : Str) ∈ bnames := by decide +kernel
theorem h_isinstance : ("isinstance" : Str) ∈ bnames := by decide +kernel
theorem h_len : ("len" : Str) ∈ bnames := by decide +kernel
theorem h_list : ("list" : Str) ∈ bnames := by decide +kernel
theorem h_max : ("max" : Str) ∈ bnames := by decide +kernel
theorem h_range : ("range" : Str) ∈ bnames := by decide +kernel
theorem h_repr : ("repr" : Str) ∈ bnames := by decide +kernel
theorem h_sorted : ("sorted" : Str) ∈ bnames := by decide +kernel
theorem h_str : ("str" : Str) ∈ bnames := by decide +kernel
theorem h_sum : ("sum" : Str) ∈ bnames := by decide +kernel
theorem h_tuple : ("tuple" : Str) ∈ bnames := by decide +kernel
def cnames : List (Str × Int) := [("LONGEST", 20), ("MAX_BLOCKS", 6), ("MAX_PLACES", 1000000000000)]
def snames : List (Str × Str) := [("DIGITS", "0123456789")]
def Cst (mg : Str → Option Value) : Prop := (∀ p ∈ cnames, ∃ t, mg p.1 = some (.int p.2 t)) ∧ ∀ p ∈ snames, ∃ t, mg p.1 = some (.str p.2 t)
theorem c_LONGEST : (("LONGEST", 20) : Str × Int) ∈ cnames := by decide +kernel
theorem c_MAX_BLOCKS : (("MAX_BLOCKS", 6) : Str × Int) ∈ cnames := by decide +kernel
theorem c_MAX_PLACES : (("MAX_PLACES", 1000000000000) : Str × Int) ∈ cnames := by decide +kernel
theorem s_DIGITS : (("DIGITS", "0123456789") : Str × Str) ∈ snames := by decide +kernel
def tT (c k : Nat) : Bool := match c with | 0 => ([0] : List Nat).contains k | 1 => ([1, 0] : List Nat).contains k | 2 => ([2, 0] : List Nat).contains k | 3 => ([3, 0] : List Nat).contains k | _ => ([4, 0] : List Nat).contains k
def xfT (c : Nat) : Str := match c with | 0 => "" | 1 => "index" | 2 => "index" | 3 => "" | _ => "index"
def xnames : List (Str × Nat) := [("TurnError", 0), ("NoIndex", 1), ("BadText", 2), ("BadBatch", 3), ("Rejected", 4)]
def xattrs : List Str := ["index"]
abbrev xn : Nat := 5
def xcT (C0 C1 C2 C3 C4 : Addr) (c : Nat) : Addr := match c with | 0 => C0 | 1 => C1 | 2 => C2 | 3 => C3 | _ => C4
theorem xn_TurnError : (("TurnError", 0) : Str × Nat) ∈ xnames := by decide +kernel
theorem xn_NoIndex : (("NoIndex", 1) : Str × Nat) ∈ xnames := by decide +kernel
theorem xn_BadText : (("BadText", 2) : Str × Nat) ∈ xnames := by decide +kernel
theorem xn_BadBatch : (("BadBatch", 3) : Str × Nat) ∈ xnames := by decide +kernel
theorem xn_Rejected : (("Rejected", 4) : Str × Nat) ∈ xnames := by decide +kernel
theorem xa_index : ("index" : Str) ∈ xattrs := by decide +kernel
def clsBody0 (s : Stmt) : List Stmt := match s with | .ClassDef _ _ _ b _ _ _ _ _ _ _ => b | _ => []
abbrev st_ini2 : Stmt := (clsBody0 (top 5)).getD 0 (.Pass ⟨0, 0, 0, 0⟩)
theorem sc_ini2 : FnScope ["self", "index"] ["self", "index"] (defScope st_ini2) := ⟨rfl, rfl, rfl, by decide +kernel, rfl, by decide +kernel, by decide +kernel⟩
theorem ok_ini2 {P : Program} {w : World} {K : PySem.W.Frag} {mg : Str → Option Value} {base : Heap} {f : Addr} {fd : FuncData} (F : L2.Fun K "__init__" "BadText.__init__" st_ini2 f fd) : FnOk P w K mg base CX0 1 f fd ["self", "index"] (spIni K "index") := ini_ok F sc_ini2 rfl (.inl rfl) (.inl rfl) (by decide) (by decide) (by decide) (by decide)



/-! ### the source: opened, drawn from -/
abbrev st_opened : Stmt := top 18
theorem sc_opened : FnScope ["_law_script", "_law_cells", "_law_cell"] ["_law_script"] (defScope st_opened) := ⟨rfl, rfl, rfl, by decide +kernel, rfl, by decide +kernel, by decide +kernel⟩
theorem ok_opened {P : Program} {w : World} {K : PySem.W.Frag} {mg : Str → Option Value} {base : Heap} {f : Addr} {fd : FuncData} (hB : Blt mg) (F : L2.Fun K "_law_opened" "_law_opened" st_opened f fd) : FnG P w K mg base CX0 1 f fd ["_law_script"] (spOpen K) := by
  refine fnG_sp F sc_opened (fun vs H Q E h => ?_) (fun cdv A outer s H vs Q E hr hgd h => ⟨tOpened K, ?_, opened_pure rfl h⟩)
  · obtain ⟨_, _, rfl, _⟩ := h
    rfl
  · have hu := hr.units
    have nd := sc_opened.nd
    exact pss_cons (ps_setLc (i := 1) (own := [("_law_cell", 2)]) rfl nd rfl rfl rfl (pi_list (pe_slice sl_list (pv 0) po_none (po_some pe_int))) (blk_of ["_law_script", "_law_cells", "_law_cell"] (defScope st_opened) rfl rfl (by decide +kernel))
        (fun _ _ _ _ _ => pg_name (i := 2) nd rfl (Or.inl rfl)) (fun _ _ _ _ _ => pts_nil) (fun _ _ _ _ _ => pe_callB call_abs rfl (hB _ h_abs) bt_abs (pa_cons (pv 2) pa_nil)))
      (pss_one (ps_ret (pe_lst (pa_cons (pe_op op_cat (pv 1) (pe_op op_rep (pe_lst (pa_cons pe_int pa_nil)) (pe_callTy call_int1 rfl (hB _ h_int) bt_int (pa_cons (pe_cmpR (op_eqD hu) (pv 1) (pe_lst pa_nil) (nomark _)) pa_nil))))
        (pa_cons pe_int (pa_cons (pe_lc (own := [("_law_cell", 2)]) rfl nd (pi_list (pv 1)) (blk_of ["_law_script", "_law_cells", "_law_cell"] (defScope st_opened) rfl rfl (by decide +kernel))
          (fun _ _ _ _ _ => pg_name (i := 2) nd rfl (Or.inl rfl)) (fun _ _ _ _ _ => pts_one (pt_cmpR op_ge (pv 2) (pe_op op_pow pe_int pe_int) (nomark _))) (fun _ _ _ _ _ => pv 2)) pa_nil))))))
abbrev st_lift : Stmt := top 19
theorem sc_lift : FnScope ["_law_jar", "_law_many", "_law_cells", "_law_count", "_law_great", "_law_rest", "_law_seed"] ["_law_jar", "_law_many"] (defScope st_lift) := ⟨rfl, rfl, rfl, by decide +kernel, rfl, by decide +kernel, by decide +kernel⟩
theorem ok_lift {P : Program} {w : World} {K : PySem.W.Frag} {mg : Str → Option Value} {base : Heap} {cl xc : Nat → Addr} {xf : Nat → Str} {R f : Addr} {fd : FuncData} (hB : Blt mg) (F : L2.Fun K "_law_lift" "_law_lift" st_lift f fd) (hm : mg "_law_lift" = some (.ref f)) (hb : Binds K fd ["_law_jar", "_law_many"] []) : Cal (jsN K cl xc xf R) P w mg base 1 "_law_lift" 2 drawF := by
  refine ⟨⟨f, fd, ["_law_jar", "_law_many"], (fnG_sp F sc_lift (fun vs H Q E h => ?_) (fun cdv A outer s H vs Q E hr hgd h => ⟨tLift K, ?_, lift_pure rfl (draw_spec h)⟩)).ofN, hm, F.kp, hb⟩, fun ds j P E h => ?_⟩
  · obtain ⟨_, _, _, ds, _, _, _, _, _, _, rp, hl, _⟩ := h
    rw [← rp.length, hl]
    rfl
  · have hu := hr.units
    have nd := sc_lift.nd
    exact pss_cons (ps_asg (pv 0) (pg_unl rfl (pgs_cons (pg_name (i := 2) nd rfl (Or.inl rfl)) (pgs_cons (pg_name (i := 3) nd rfl (Or.inl rfl)) (pgs_cons (pg_name (i := 4) nd rfl (Or.inl rfl)) pgs_nil)))))
      (pss_cons (ps_asg (pe_op op_add (pv 3) pe_int) (pg_sub (pv 0) pe_int set_list))
      (pss_cons (ps_while PassesOwn.never (pt_cmpR (op_neD hu) (pv 4) (pe_lst pa_nil) (nomark _))
        (pss_cons (ps_set (i := 5) nd rfl (Or.inl rfl) (pe_bm0 PySem.F.plainAttrs_list PySem.F.slot_list_pop PySem.F.type_list_pop mt_pop (pv 4)))
          (pss_one (ps_if (pt_cmpR op_gt (pv 5) pe_int (nomark _)) (pss_cons (ps_expr (pe_bm PySem.F.plainAttrs_list PySem.F.slot_list_append PySem.F.type_list_append mt_append (pv 4) (pa_cons (pe_op op_fdivW (pv 5) (pv 1)) pa_nil))) (pss_one (ps_ret (pe_op op_mod (pv 5) (pv 1))))) pss_nil))))
      (pss_cons (ps_set (i := 6) nd rfl (Or.inl rfl) (pe_op op_mod (pe_op op_add (pe_op op_mod (pe_ix ix_list (pv 2) (pe_op op_mod (pv 3) (pe_callB call_len rfl (hB _ h_len) bt_len (pa_cons (pv 2) pa_nil))) (fun _ _ => rfl)) pe_int) (pe_op op_mulW pe_int (pe_op op_add (pv 3) pe_int))) pe_int))
      (pss_cons (ps_set (i := 6) nd rfl (Or.inl rfl) (pe_op op_mod (pe_op op_mulW (pe_op op_mod (pe_op op_mulW (pv 6) (pv 6)) pe_int) pe_int) pe_int))
      (pss_cons (ps_set (i := 6) nd rfl (Or.inl rfl) (pe_op op_mod (pe_op op_pow (pe_op op_add (pv 6) (pe_op op_mulW pe_int (pv 3))) pe_int) pe_int))
      (pss_one (ps_ret (pe_op op_mod (pe_op op_fdivW (pv 6) pe_int) (pv 1)))))))))
  · obtain ⟨k, rfl, _⟩ := h
    rfl


/-! ### _law_mixed -/
def f_mixed : Sv Nat := (sSeq (sPr2 2 3 (eB listB (aCons (eVar 1) aNil)) (eLst aNil))
    (sSeq (sWhile (tBl (eOp neD (eVar 2) (eLst aNil))) (sSeq (sAppPop 3 2 (eCall drawF (aCons (eVar 0) (aCons (eB lenB (aCons (eVar 2) aNil)) aNil))))
    sNil))
    (sSeq (sRet (eVar 3))
    sNil)))
instance : MoS f_mixed := by unfold f_mixed; infer_instance
def F_mixed : Fv Nat := runF 4 2 f_mixed
instance : MoF F_mixed := inferInstanceAs (MoF (runF 4 2 f_mixed))
def M_mixed : Nat → Bool := fun i => Nat.beq i 2 || Nat.beq i 3
abbrev N_mixed : List Str := ["_law_jar", "_law_items", "_law_rest", "_law_found_here"]
abbrev st_mixed : Stmt := top 22
theorem sc_mixed : FnScope N_mixed ["_law_jar", "_law_items"] (defScope st_mixed) := ⟨rfl, rfl, rfl, by decide +kernel, rfl, by decide +kernel, by decide +kernel⟩
theorem b_mixed {P : Program} {w : World} {K : PySem.W.Frag} {mg : Str → Option Value} {base : Heap} {cl xc : Nat → Addr} {R f : Addr} {cdv : Value} {A : Around} {outer : List Env} {s : Shared} {H : Hp} {E : XK} {B : Bs} (hB : Blt mg) (hC : Cst mg)  (C_lift : Cal (jsN K cl xc xfT R) P w mg base 1 "_law_lift" 2 drawF) 
    (hr : Room 1 (A.deeper (envOfC "_law_mixed" (defScope st_mixed) s.heap.objs.size f cdv))) (hgd : (A.deeper (envOfC "_law_mixed" (defScope st_mixed) s.heap.objs.size f cdv)).guards = some []) :
    PSs (cxE P w K mg base N_mixed "_law_mixed" (defScope st_mixed) f cdv A outer s H E) (defBody st_mixed) (rdS (jsN K cl xc xfT R) B M_mixed (WD E) f_mixed) := by
  have hu := hr.units
  have hv := hv_of hr
  have hK : K = (jsN K cl xc xfT R).K := rfl
  have nd := sc_mixed.nd
  have tk := takesE (P := P) (w := w) (K := K) (mg := mg) (base := base) (N := N_mixed) (qual := "_law_mixed") (scope := defScope st_mixed) (f := f) (cd := cdv) (A := A) (outer := outer) (s := s) (H := H) (E := E)
  have ow := ownE (P := P) (w := w) (K := K) (mg := mg) (base := base) (N := N_mixed) (qual := "_law_mixed") (scope := defScope st_mixed) (f := f) (cd := cdv) (A := A) (outer := outer) (s := s) (H := H) (E := E)
  exact (zC (zPr2 2 3 nd (clO (kLstF hK (hB _ h_list) (aC (xV 1) aN))) (clO (lsF aN)))
    (zC (zWhile (tCp (kNe hK hu) s_ne (xO 2) (toMixF (lsF aN))) (zC (zAppPop 3 2 (toMixC (callC hK tk C_lift (hr.mono (by decide)) hgd (aC (xV 0) (aC (kLen hK (hB _ h_len) (aX (xO 2) aN)) aN)))))
    s_nil) (hp := ow))
    (zC (s_ret (xO 3))
    s_nil)))
theorem ok_mixed {P : Program} {w : World} {K : PySem.W.Frag} {mg : Str → Option Value} {base : Heap} {cl xc : Nat → Addr} {R f : Addr} {fd : FuncData} (hB : Blt mg) (hC : Cst mg)  (C_lift : Cal (jsN K cl xc xfT R) P w mg base 1 "_law_lift" 2 drawF) (F : L2.Fun K "_law_mixed" "_law_mixed" st_mixed f fd) (hm : mg "_law_mixed" = some (.ref f)) (hb : Binds K fd ["_law_jar", "_law_items"] []) :
    Cal (jsN K cl xc xfT R) P w mg base 2 "_law_mixed" 2 F_mixed :=
  ⟨⟨f, fd, ["_law_jar", "_law_items"], fnG_D F sc_mixed rfl (by decide) (fun cdv A outer s H E B hr hgd => b_mixed hB hC  C_lift  hr hgd), hm, F.kp, hb⟩, runF_len⟩


/-! ### _law_pick -/
def f_pick : Sv Nat := (sSeq (sRet (eOp idxD (eVar 1) (eCall drawF (aCons (eVar 0) (aCons (eB lenB (aCons (eVar 1) aNil)) aNil)))))
    sNil)
instance : MoS f_pick := by unfold f_pick; infer_instance
def F_pick : Fv Nat := runF 2 2 f_pick
instance : MoF F_pick := inferInstanceAs (MoF (runF 2 2 f_pick))
def M_pick : Nat → Bool := fun i => false
abbrev N_pick : List Str := ["_law_jar", "_law_items"]
abbrev st_pick : Stmt := top 21
theorem sc_pick : FnScope N_pick ["_law_jar", "_law_items"] (defScope st_pick) := ⟨rfl, rfl, rfl, by decide +kernel, rfl, by decide +kernel, by decide +kernel⟩
theorem b_pick {P : Program} {w : World} {K : PySem.W.Frag} {mg : Str → Option Value} {base : Heap} {cl xc : Nat → Addr} {R f : Addr} {cdv : Value} {A : Around} {outer : List Env} {s : Shared} {H : Hp} {E : XK} {B : Bs} (hB : Blt mg) (hC : Cst mg)  (C_lift : Cal (jsN K cl xc xfT R) P w mg base 1 "_law_lift" 2 drawF) 
    (hr : Room 1 (A.deeper (envOfC "_law_pick" (defScope st_pick) s.heap.objs.size f cdv))) (hgd : (A.deeper (envOfC "_law_pick" (defScope st_pick) s.heap.objs.size f cdv)).guards = some []) :
    PSs (cxE P w K mg base N_pick "_law_pick" (defScope st_pick) f cdv A outer s H E) (defBody st_pick) (rdS (jsN K cl xc xfT R) B M_pick (WD E) f_pick) := by
  have hu := hr.units
  have hv := hv_of hr
  have hK : K = (jsN K cl xc xfT R).K := rfl
  have nd := sc_pick.nd
  have tk := takesE (P := P) (w := w) (K := K) (mg := mg) (base := base) (N := N_pick) (qual := "_law_pick") (scope := defScope st_pick) (f := f) (cd := cdv) (A := A) (outer := outer) (s := s) (H := H) (E := E)
  have ow := ownE (P := P) (w := w) (K := K) (mg := mg) (base := base) (N := N_pick) (qual := "_law_pick") (scope := defScope st_pick) (f := f) (cd := cdv) (A := A) (outer := outer) (s := s) (H := H) (E := E)
  exact (zC (s_ret (ixC hK (xV 1) (callC hK tk C_lift (hr.mono (by decide)) hgd (aC (xV 0) (aC (kLen hK (hB _ h_len) (aX (toMixC (xV 1)) aN)) aN)))))
    s_nil)
theorem ok_pick {P : Program} {w : World} {K : PySem.W.Frag} {mg : Str → Option Value} {base : Heap} {cl xc : Nat → Addr} {R f : Addr} {fd : FuncData} (hB : Blt mg) (hC : Cst mg)  (C_lift : Cal (jsN K cl xc xfT R) P w mg base 1 "_law_lift" 2 drawF) (F : L2.Fun K "_law_pick" "_law_pick" st_pick f fd) (hm : mg "_law_pick" = some (.ref f)) (hb : Binds K fd ["_law_jar", "_law_items"] []) :
    Cal (jsN K cl xc xfT R) P w mg base 2 "_law_pick" 2 F_pick :=
  ⟨⟨f, fd, ["_law_jar", "_law_items"], fnG_D F sc_pick rfl (by decide) (fun cdv A outer s H E B hr hgd => b_pick hB hC  C_lift  hr hgd), hm, F.kp, hb⟩, runF_len⟩


/-! ### _law_far -/
def f_far : Sv Nat := (sSeq (sRet (eOp modD (eOp addD (eOp mulD (eCall drawF (aCons (eVar 0) (aCons (eOp powD (eC (.int 10)) (eC (.int 7))) aNil))) (eOp powD (eC (.int 10)) (eC (.int 6)))) (eCall drawF (aCons (eVar 0) (aCons (eOp powD (eC (.int 10)) (eC (.int 6))) aNil)))) (eVar 1)))
    sNil)
instance : MoS f_far := by unfold f_far; infer_instance
def F_far : Fv Nat := runF 2 2 f_far
instance : MoF F_far := inferInstanceAs (MoF (runF 2 2 f_far))
def M_far : Nat → Bool := fun i => false
abbrev N_far : List Str := ["_law_jar", "_law_many"]
abbrev st_far : Stmt := top 20
theorem sc_far : FnScope N_far ["_law_jar", "_law_many"] (defScope st_far) := ⟨rfl, rfl, rfl, by decide +kernel, rfl, by decide +kernel, by decide +kernel⟩
theorem b_far {P : Program} {w : World} {K : PySem.W.Frag} {mg : Str → Option Value} {base : Heap} {cl xc : Nat → Addr} {R f : Addr} {cdv : Value} {A : Around} {outer : List Env} {s : Shared} {H : Hp} {E : XK} {B : Bs} (hB : Blt mg) (hC : Cst mg)  (C_lift : Cal (jsN K cl xc xfT R) P w mg base 1 "_law_lift" 2 drawF) 
    (hr : Room 1 (A.deeper (envOfC "_law_far" (defScope st_far) s.heap.objs.size f cdv))) (hgd : (A.deeper (envOfC "_law_far" (defScope st_far) s.heap.objs.size f cdv)).guards = some []) :
    PSs (cxE P w K mg base N_far "_law_far" (defScope st_far) f cdv A outer s H E) (defBody st_far) (rdS (jsN K cl xc xfT R) B M_far (WD E) f_far) := by
  have hu := hr.units
  have hv := hv_of hr
  have hK : K = (jsN K cl xc xfT R).K := rfl
  have nd := sc_far.nd
  have tk := takesE (P := P) (w := w) (K := K) (mg := mg) (base := base) (N := N_far) (qual := "_law_far") (scope := defScope st_far) (f := f) (cd := cdv) (A := A) (outer := outer) (s := s) (H := H) (E := E)
  have ow := ownE (P := P) (w := w) (K := K) (mg := mg) (base := base) (N := N_far) (qual := "_law_far") (scope := defScope st_far) (f := f) (cd := cdv) (A := A) (outer := outer) (s := s) (H := H) (E := E)
  exact (zC (s_ret (bMod (toMixC (bAddC hK (bMulC (callC hK tk C_lift (hr.mono (by decide)) hgd (aC (xV 0) (aC (bPow (toMixC cI) (toMixC cI)) aN))) (bPow (toMixC cI) (toMixC cI))) (callC hK tk C_lift (hr.mono (by decide)) hgd (aC (xV 0) (aC (bPow (toMixC cI) (toMixC cI)) aN))))) (toMixC (xV 1))))
    s_nil)
theorem ok_far {P : Program} {w : World} {K : PySem.W.Frag} {mg : Str → Option Value} {base : Heap} {cl xc : Nat → Addr} {R f : Addr} {fd : FuncData} (hB : Blt mg) (hC : Cst mg)  (C_lift : Cal (jsN K cl xc xfT R) P w mg base 1 "_law_lift" 2 drawF) (F : L2.Fun K "_law_far" "_law_far" st_far f fd) (hm : mg "_law_far" = some (.ref f)) (hb : Binds K fd ["_law_jar", "_law_many"] []) :
    Cal (jsN K cl xc xfT R) P w mg base 2 "_law_far" 2 F_far :=
  ⟨⟨f, fd, ["_law_jar", "_law_many"], fnG_D F sc_far rfl (by decide) (fun cdv A outer s H E B hr hgd => b_far hB hC  C_lift  hr hgd), hm, F.kp, hb⟩, runF_len⟩


/-! ### _law_drawn -/
def f_drawn : Sv Nat := (sSeq (sAsg (gTp (gsCons (gNm 3) (gsCons (gNm 4) gsNil))) (eTup (aCons (eOp addD (eC (.int 1)) (eCall drawF (aCons (eVar 0) (aCons (eVar 1) aNil)))) (aCons (eCall F_pick (aCons (eVar 0) (aCons (eLst (aCons (eC (.int 3)) (aCons (eC (.int 9)) (aCons (eC (.int 1000)) (aCons (eVar 2) aNil))))) aNil))) aNil))))
    (sSeq (sSet 5 (eComp [7] (iRng1 (eVar 3)) (gNm 7) tYesD (eOp addD (eC (.int 1)) (eCall F_far (aCons (eVar 0) (aCons (eB maxD (aCons (eC (.int 1)) (aCons (eOp fdivD (eVar 4) (eVar 3)) aNil))) aNil))))))
    (sSeq (sSet 6 (eCall F_mixed (aCons (eVar 0) (aCons (eLrg (iRng1 (eVar 3))) aNil))))
    (sSeq (sIf (tBl (eOp eqD (eCall drawF (aCons (eVar 0) (aCons (eC (.int 4)) aNil))) (eC (.int 0)))) (sSeq (sSet 6 (eUn revD (eLrg (iRng1 (eVar 3)))))
    sNil) sNil)
    (sSeq (sRet (eTup (aCons (eB tupleB (aCons (eVar 5) aNil)) (aCons (eB tupleB (aCons (eVar 6) aNil)) aNil))))
    sNil)))))
instance : MoS f_drawn := by unfold f_drawn; infer_instance
def F_drawn : Fv Nat := runF 8 3 f_drawn
instance : MoF F_drawn := inferInstanceAs (MoF (runF 8 3 f_drawn))
def M_drawn : Nat → Bool := fun i => false
abbrev N_drawn : List Str := ["_law_jar", "_law_most", "_law_wide", "_law_many", "_law_great", "_law_lengths", "_law_order", "_law_k"]
abbrev st_drawn : Stmt := top 23
theorem sc_drawn : FnScope N_drawn ["_law_jar", "_law_most", "_law_wide"] (defScope st_drawn) := ⟨rfl, rfl, rfl, by decide +kernel, rfl, by decide +kernel, by decide +kernel⟩
theorem b_drawn {P : Program} {w : World} {K : PySem.W.Frag} {mg : Str → Option Value} {base : Heap} {cl xc : Nat → Addr} {R f : Addr} {cdv : Value} {A : Around} {outer : List Env} {s : Shared} {H : Hp} {E : XK} {B : Bs} (hB : Blt mg) (hC : Cst mg)  (C_far : Cal (jsN K cl xc xfT R) P w mg base 2 "_law_far" 2 F_far) (C_lift : Cal (jsN K cl xc xfT R) P w mg base 1 "_law_lift" 2 drawF) (C_mixed : Cal (jsN K cl xc xfT R) P w mg base 2 "_law_mixed" 2 F_mixed) (C_pick : Cal (jsN K cl xc xfT R) P w mg base 2 "_law_pick" 2 F_pick) 
    (hr : Room 2 (A.deeper (envOfC "_law_drawn" (defScope st_drawn) s.heap.objs.size f cdv))) (hgd : (A.deeper (envOfC "_law_drawn" (defScope st_drawn) s.heap.objs.size f cdv)).guards = some []) :
    PSs (cxE P w K mg base N_drawn "_law_drawn" (defScope st_drawn) f cdv A outer s H E) (defBody st_drawn) (rdS (jsN K cl xc xfT R) B M_drawn (WD E) f_drawn) := by
  have hu := hr.units
  have hv := hv_of hr
  have hK : K = (jsN K cl xc xfT R).K := rfl
  have nd := sc_drawn.nd
  have tk := takesE (P := P) (w := w) (K := K) (mg := mg) (base := base) (N := N_drawn) (qual := "_law_drawn") (scope := defScope st_drawn) (f := f) (cd := cdv) (A := A) (outer := outer) (s := s) (H := H) (E := E)
  have ow := ownE (P := P) (w := w) (K := K) (mg := mg) (base := base) (N := N_drawn) (qual := "_law_drawn") (scope := defScope st_drawn) (f := f) (cd := cdv) (A := A) (outer := outer) (s := s) (H := H) (E := E)
  exact (zC (zAsg (tpC (aC (bAddC hK cI (callC hK tk C_lift (hr.mono (by decide)) hgd (aC (xV 0) (aC (xV 1) aN)))) (aC (callC hK tk C_pick (hr.mono (by decide)) hgd (aC (xV 0) (aC (toClean (lsF (aC cI (aC cI (aC cI (aC (xV 2) aN)))))) aN))) aN))) (gT hK (gsC_len (gsC_len gsN_len)) (gsC (gN 3 nd) (gsC (gN 4 nd) gs0))))
    (zC (setLc 5 [("_law_k", 7)] nd (blk_of N_drawn (defScope st_drawn) rfl rfl (by decide +kernel)) (iR1 (hB _ h_range) (toMixC (xV 3))) (fun _ _ _ _ _ => (gN 7 nd)) (fun _ _ _ _ _ => ts0) (fun _ _ _ _ _ => (bAddC hK cI (callC hK takesW0 C_far (hr.mono (by decide)) hgd (aC (xV 0) (aC (kMaxD hK (hB _ h_max) (aX (toMixC cI) (aX (toMixC (bDiv (toMixC (xV 4)) (toMixC (xV 3)))) aN))) aN))))))
    (zC (zSet 6 nd (callC hK tk C_mixed (hr.mono (by decide)) hgd (aC (xV 0) (aC (toClean (lR1 (hB _ h_list) (hB _ h_range) (toMixC (xV 3)))) aN))))
    (zC (s_if (tCp (kEq hK hu) s_eq (toMixC (callC hK tk C_lift (hr.mono (by decide)) hgd (aC (xV 0) (aC cI aN)))) (toMixC cI)) (zC (zSet 6 nd (rvC hK (toClean (lR1 (hB _ h_list) (hB _ h_range) (toMixC (xV 3))))))
    s_nil) s_nil)
    (zC (s_ret (tpC (aC (kTupC hK (hB _ h_tuple) (aC (xV 5) aN)) (aC (kTupC hK (hB _ h_tuple) (aC (xV 6) aN)) aN))))
    s_nil)))))
theorem ok_drawn {P : Program} {w : World} {K : PySem.W.Frag} {mg : Str → Option Value} {base : Heap} {cl xc : Nat → Addr} {R f : Addr} {fd : FuncData} (hB : Blt mg) (hC : Cst mg)  (C_far : Cal (jsN K cl xc xfT R) P w mg base 2 "_law_far" 2 F_far) (C_lift : Cal (jsN K cl xc xfT R) P w mg base 1 "_law_lift" 2 drawF) (C_mixed : Cal (jsN K cl xc xfT R) P w mg base 2 "_law_mixed" 2 F_mixed) (C_pick : Cal (jsN K cl xc xfT R) P w mg base 2 "_law_pick" 2 F_pick) (F : L2.Fun K "_law_drawn" "_law_drawn" st_drawn f fd) (hm : mg "_law_drawn" = some (.ref f)) (hb : Binds K fd ["_law_jar", "_law_most", "_law_wide"] []) :
    Cal (jsN K cl xc xfT R) P w mg base 3 "_law_drawn" 3 F_drawn :=
  ⟨⟨f, fd, ["_law_jar", "_law_most", "_law_wide"], fnG_D F sc_drawn rfl (by decide) (fun cdv A outer s H E B hr hgd => b_drawn hB hC  C_far C_lift C_mixed C_pick  hr hgd), hm, F.kp, hb⟩, runF_len⟩


/-! ### _law_joined -/
def f_joined : Sv Nat := (sSeq (sRet (eMs joinD (eC (.str " ")) (eComp [1] (iSeq (eVar 0)) (gNm 1) tYesD (eB strX (aCons (eVar 1) aNil)))))
    sNil)
instance : MoS f_joined := by unfold f_joined; infer_instance
def F_joined : Fv Nat := runF 2 1 f_joined
instance : MoF F_joined := inferInstanceAs (MoF (runF 2 1 f_joined))
def M_joined : Nat → Bool := fun i => false
abbrev N_joined : List Str := ["_law_items", "_law_item"]
abbrev st_joined : Stmt := top 25
theorem sc_joined : FnScope N_joined ["_law_items"] (defScope st_joined) := ⟨rfl, rfl, rfl, by decide +kernel, rfl, by decide +kernel, by decide +kernel⟩
theorem b_joined {P : Program} {w : World} {K : PySem.W.Frag} {mg : Str → Option Value} {base : Heap} {cl xc : Nat → Addr} {R f : Addr} {cdv : Value} {A : Around} {outer : List Env} {s : Shared} {H : Hp} {E : XK} {B : Bs} (hB : Blt mg) (hC : Cst mg)   
    (hr : Room 0 (A.deeper (envOfC "_law_joined" (defScope st_joined) s.heap.objs.size f cdv))) (hgd : (A.deeper (envOfC "_law_joined" (defScope st_joined) s.heap.objs.size f cdv)).guards = some []) :
    PSs (cxE P w K mg base N_joined "_law_joined" (defScope st_joined) f cdv A outer s H E) (defBody st_joined) (rdS (jsN K cl xc xfT R) B M_joined (WD E) f_joined) := by
  have hu := hr.units
  have hv := hv_of hr
  have hK : K = (jsN K cl xc xfT R).K := rfl
  have nd := sc_joined.nd
  have tk := takesE (P := P) (w := w) (K := K) (mg := mg) (base := base) (N := N_joined) (qual := "_law_joined") (scope := defScope st_joined) (f := f) (cd := cdv) (A := A) (outer := outer) (s := s) (H := H) (E := E)
  have ow := ownE (P := P) (w := w) (K := K) (mg := mg) (base := base) (N := N_joined) (qual := "_law_joined") (scope := defScope st_joined) (f := f) (cd := cdv) (A := A) (outer := outer) (s := s) (H := H) (E := E)
  exact (zC (s_ret (e_join hK cS (toClean (lcF [("_law_item", 1)] nd (blk_of N_joined (defScope st_joined) rfl rfl (by decide +kernel)) (iSq hK (xV 0)) (fun _ _ _ _ _ => (gN 1 nd)) (fun _ _ _ _ _ => ts0) (fun _ _ _ _ _ => (kStr hK hgd hu (hB _ h_str) (aX (toMixC (xV 1)) aN)))))))
    s_nil)
theorem ok_joined {P : Program} {w : World} {K : PySem.W.Frag} {mg : Str → Option Value} {base : Heap} {cl xc : Nat → Addr} {R f : Addr} {fd : FuncData} (hB : Blt mg) (hC : Cst mg)   (F : L2.Fun K "_law_joined" "_law_joined" st_joined f fd) (hm : mg "_law_joined" = some (.ref f)) (hb : Binds K fd ["_law_items"] []) :
    Cal (jsN K cl xc xfT R) P w mg base 1 "_law_joined" 1 F_joined :=
  ⟨⟨f, fd, ["_law_items"], fnG_D F sc_joined rfl (by decide) (fun cdv A outer s H E B hr hgd => b_joined hB hC    hr hgd), hm, F.kp, hb⟩, runF_len⟩


/-! ### _law_integer_of -/
def f_integer_of : Sv Nat := (sSeq (sSet 1 (eIf (tBl (eOp eqD (eSl sliceD (eVar 0) pNone (pSome (eC (.int 1)))) (eC (.str "-")))) (eSl sliceD (eVar 0) (pSome (eC (.int 1))) pNone) (eVar 0)))
    (sSeq (sIf (tOrD (tBl (eOp eqD (eVar 1) (eC (.str "")))) (tOrD (tBl (eOp gtD (eB lenB (aCons (eVar 1) aNil)) (eC (.int 20)))) (tBl (eOp neLD (eComp [2] (iSeq (eVar 1)) (gNm 2) (tBl (eOp ninS (eVar 2) (eC (.str "0123456789")))) (eVar 2)) (eLst aNil))))) (sSeq (sRet (eC .non))
    sNil) sNil)
    (sSeq (sRet (eIf (tAndD (tBl (eOp eqD (eOp idxD (eVar 1) (eC (.int 0))) (eC (.str "0")))) (tBl (eOp neD (eVar 0) (eC (.str "0"))))) (eC .non) (eB intS (aCons (eVar 0) aNil))))
    sNil)))
instance : MoS f_integer_of := by unfold f_integer_of; infer_instance
def F_integer_of : Fv Nat := runF 3 1 f_integer_of
instance : MoF F_integer_of := inferInstanceAs (MoF (runF 3 1 f_integer_of))
def M_integer_of : Nat → Bool := fun i => false
abbrev N_integer_of : List Str := ["_law_part", "_law_digits", "_law_sign"]
abbrev st_integer_of : Stmt := top 24
theorem sc_integer_of : FnScope N_integer_of ["_law_part"] (defScope st_integer_of) := ⟨rfl, rfl, rfl, by decide +kernel, rfl, by decide +kernel, by decide +kernel⟩
theorem b_integer_of {P : Program} {w : World} {K : PySem.W.Frag} {mg : Str → Option Value} {base : Heap} {cl xc : Nat → Addr} {R f : Addr} {cdv : Value} {A : Around} {outer : List Env} {s : Shared} {H : Hp} {E : XK} {B : Bs} (hB : Blt mg) (hC : Cst mg)   
    (hr : Room 0 (A.deeper (envOfC "_law_integer_of" (defScope st_integer_of) s.heap.objs.size f cdv))) (hgd : (A.deeper (envOfC "_law_integer_of" (defScope st_integer_of) s.heap.objs.size f cdv)).guards = some []) :
    PSs (cxE P w K mg base N_integer_of "_law_integer_of" (defScope st_integer_of) f cdv A outer s H E) (defBody st_integer_of) (rdS (jsN K cl xc xfT R) B M_integer_of (WD E) f_integer_of) := by
  have hu := hr.units
  have hv := hv_of hr
  have hK : K = (jsN K cl xc xfT R).K := rfl
  have nd := sc_integer_of.nd
  have tk := takesE (P := P) (w := w) (K := K) (mg := mg) (base := base) (N := N_integer_of) (qual := "_law_integer_of") (scope := defScope st_integer_of) (f := f) (cd := cdv) (A := A) (outer := outer) (s := s) (H := H) (E := E)
  have ow := ownE (P := P) (w := w) (K := K) (mg := mg) (base := base) (N := N_integer_of) (qual := "_law_integer_of") (scope := defScope st_integer_of) (f := f) (cd := cdv) (A := A) (outer := outer) (s := s) (H := H) (E := E)
  exact (zC (zSet 1 nd (e_if (tCp (kEq hK hu) s_eq (toMixC (slC hK (xV 0) p_none (p_some (toMixC cI)))) (toMixC cS)) (slC hK (xV 0) (p_some (toMixC cI)) p_none) (xV 0)))
    (zC (s_if (PW.pt (t_or (tCp (kEq hK hu) s_eq (toMixC (xV 1)) (toMixC cS)) (t_or (tCp (op_gt) s_cmp (toMixC (kLen hK (hB _ h_len) (aX (toMixC (xV 1)) aN))) (toMixC cI)) (t_or1 (tCp (kNeL hK hu) s_neL (toMixF (lcF [("_law_sign", 2)] nd (blk_of N_integer_of (defScope st_integer_of) rfl rfl (by decide +kernel)) (iSq hK (xV 1)) (fun _ _ _ _ _ => (gN 2 nd)) (fun _ _ _ _ _ => (ts1 (tIn op_notIn_sign s_ninS (toMixC (xV 2)) (toMixC cS)))) (fun _ _ _ _ _ => (xV 2)))) (toMixF (lsF aN))))))) (zC (s_ret cN)
    s_nil) s_nil)
    (zC (s_ret (e_if (PW.pt (t_and (tCp (kEq hK hu) s_eq (toMixC (ixC hK (xV 1) cI)) (toMixC cS)) (t_and1 (tCp (kNe hK hu) s_ne (toMixC (xV 0)) (toMixC cS))))) cN (kIntS (hB _ h_int) (aX (toMixC (xV 0)) aN))))
    s_nil)))
theorem ok_integer_of {P : Program} {w : World} {K : PySem.W.Frag} {mg : Str → Option Value} {base : Heap} {cl xc : Nat → Addr} {R f : Addr} {fd : FuncData} (hB : Blt mg) (hC : Cst mg)   (F : L2.Fun K "_law_integer_of" "_law_integer_of" st_integer_of f fd) (hm : mg "_law_integer_of" = some (.ref f)) (hb : Binds K fd ["_law_part"] []) :
    Cal (jsN K cl xc xfT R) P w mg base 1 "_law_integer_of" 1 F_integer_of :=
  ⟨⟨f, fd, ["_law_part"], fnG_D F sc_integer_of rfl (by decide) (fun cdv A outer s H E B hr hgd => b_integer_of hB hC    hr hgd), hm, F.kp, hb⟩, runF_len⟩


/-! ### _law_twisted -/
def f_twisted : Sv Nat := (sSeq (sPr2 2 3 (eCall drawF (aCons (eVar 0) (aCons (eOp addD (eB lenB (aCons (eVar 1) aNil)) (eC (.int 1))) aNil))) (eMs splitD (eVar 1) (eC (.str " "))))
    (sSeq (sPr2 4 5 (eCall drawF (aCons (eVar 0) (aCons (eOp addD (eB lenB (aCons (eVar 3) aNil)) (eC (.int 1))) aNil))) (eCall F_pick (aCons (eVar 0) (aCons (eLst (aCons (eC (.str "0")) (aCons (eC (.str " ")) (aCons (eC (.str "-")) (aCons (eC (.str "1")) (aCons (eC (.str ":")) (aCons (eC (.str "\n")) (aCons (eC (.str "7")) (aCons (eC (.str "+")) (aCons (eC (.str ".")) aNil)))))))))) aNil))))
    (sSeq (sSet 6 (eOp addD (eVar 3) (eLst (aCons (eC (.str "")) (aCons (eC (.str "00:1")) (aCons (eC (.str "0:01")) (aCons (eC (.str "6:1")) (aCons (eC (.str "0:0")) (aCons (eOp addD (eC (.str "1:")) (eOp mulT (eC (.str "1")) (eC (.int 14)))) (aCons (eOp addD (eC (.str "2:")) (eOp mulT (eC (.str "1")) (eC (.int 2500)))) (aCons (eC (.str "-0:1")) (aCons (eC (.str "0")) (aCons (eC (.str ":")) aNil)))))))))))))
    (sSeq (sSet 7 (eCall F_pick (aCons (eVar 0) (aCons (eOp addD (eVar 6) (eLst (aCons (eC (.str "5:1000000000000")) (aCons (eC (.str "5:1000000000001")) (aCons (eC (.str "0:1:1")) (aCons (eC (.str "0:-1")) aNil)))))) aNil))))
    (sSeq (sSet 8 (eLst (aCons (eOp addD (eOp addD (eSl sliceD (eVar 1) pNone (pSome (eVar 2))) (eVar 5)) (eSl sliceD (eVar 1) (pSome (eVar 2)) pNone)) (aCons (eOp addD (eOp addD (eSl sliceD (eVar 1) pNone (pSome (eVar 2))) (eVar 5)) (eSl sliceD (eVar 1) (pSome (eOp addD (eVar 2) (eC (.int 1)))) pNone)) (aCons (eOp addD (eSl sliceD (eVar 1) pNone (pSome (eVar 2))) (eSl sliceD (eVar 1) (pSome (eOp addD (eVar 2) (eC (.int 1)))) pNone)) (aCons (eOp addD (eVar 1) (eC (.str " "))) aNil))))))
    (sSeq (sApp 8 (eCall F_joined (aCons (eOp addD (eOp addD (eSl sliceD (eVar 3) pNone (pSome (eVar 4))) (eLst (aCons (eVar 7) aNil))) (eSl sliceD (eVar 3) (pSome (eVar 4)) pNone)) aNil)))
    (sSeq (sApp 8 (eCall F_joined (aCons (eOp addD (eOp addD (eSl sliceD (eVar 3) pNone (pSome (eVar 4))) (eLst (aCons (eVar 7) aNil))) (eSl sliceD (eVar 3) (pSome (eOp addD (eVar 4) (eC (.int 1)))) pNone)) aNil)))
    (sSeq (sRet (eCallM F_pick (aCons (eVar 0) (aCons (eOp addD (eVar 8) (eLst (aCons (eCall F_joined (aCons (eUn revD (eVar 3)) aNil)) (aCons (eOp addD (eOp addD (eVar 1) (eC (.str " "))) (eVar 1)) aNil)))) aNil))))
    sNil))))))))
instance : MoS f_twisted := by unfold f_twisted; infer_instance
def F_twisted : Fv Nat := runF 9 2 f_twisted
instance : MoF F_twisted := inferInstanceAs (MoF (runF 9 2 f_twisted))
def M_twisted : Nat → Bool := fun i => Nat.beq i 8
abbrev N_twisted : List Str := ["_law_jar", "_law_text", "_law_at", "_law_words", "_law_spot", "_law_sign", "_law_some", "_law_word", "_law_texts"]
abbrev st_twisted : Stmt := top 30
theorem sc_twisted : FnScope N_twisted ["_law_jar", "_law_text"] (defScope st_twisted) := ⟨rfl, rfl, rfl, by decide +kernel, rfl, by decide +kernel, by decide +kernel⟩
theorem b_twisted {P : Program} {w : World} {K : PySem.W.Frag} {mg : Str → Option Value} {base : Heap} {cl xc : Nat → Addr} {R f : Addr} {cdv : Value} {A : Around} {outer : List Env} {s : Shared} {H : Hp} {E : XK} {B : Bs} (hB : Blt mg) (hC : Cst mg)  (C_joined : Cal (jsN K cl xc xfT R) P w mg base 1 "_law_joined" 1 F_joined) (C_lift : Cal (jsN K cl xc xfT R) P w mg base 1 "_law_lift" 2 drawF) (C_pick : Cal (jsN K cl xc xfT R) P w mg base 2 "_law_pick" 2 F_pick) 
    (hr : Room 2 (A.deeper (envOfC "_law_twisted" (defScope st_twisted) s.heap.objs.size f cdv))) (hgd : (A.deeper (envOfC "_law_twisted" (defScope st_twisted) s.heap.objs.size f cdv)).guards = some []) :
    PSs (cxE P w K mg base N_twisted "_law_twisted" (defScope st_twisted) f cdv A outer s H E) (defBody st_twisted) (rdS (jsN K cl xc xfT R) B M_twisted (WD E) f_twisted) := by
  have hu := hr.units
  have hv := hv_of hr
  have hK : K = (jsN K cl xc xfT R).K := rfl
  have nd := sc_twisted.nd
  have tk := takesE (P := P) (w := w) (K := K) (mg := mg) (base := base) (N := N_twisted) (qual := "_law_twisted") (scope := defScope st_twisted) (f := f) (cd := cdv) (A := A) (outer := outer) (s := s) (H := H) (E := E)
  have ow := ownE (P := P) (w := w) (K := K) (mg := mg) (base := base) (N := N_twisted) (qual := "_law_twisted") (scope := defScope st_twisted) (f := f) (cd := cdv) (A := A) (outer := outer) (s := s) (H := H) (E := E)
  exact (zC (zPr2 2 3 nd (clC (callC hK tk C_lift (hr.mono (by decide)) hgd (aC (xV 0) (aC (bAddC hK (kLen hK (hB _ h_len) (aX (toMixC (xV 1)) aN)) cI) aN)))) (clC (toClean (e_split (xV 1) cS))))
    (zC (zPr2 4 5 nd (clC (callC hK tk C_lift (hr.mono (by decide)) hgd (aC (xV 0) (aC (bAddC hK (kLen hK (hB _ h_len) (aX (toMixC (xV 3)) aN)) cI) aN)))) (clC (callC hK tk C_pick (hr.mono (by decide)) hgd (aC (xV 0) (aC (toClean (lsF (aC cS (aC cS (aC cS (aC cS (aC cS (aC cS (aC cS (aC cS (aC cS aN))))))))))) aN)))))
    (zC (zSet 6 nd (bAddC hK (xV 3) (toClean (lsF (aC cS (aC cS (aC cS (aC cS (aC cS (aC (bAddC hK cS (bMulT (toMixC cS) (toMixC cI))) (aC (bAddC hK cS (bMulT (toMixC cS) (toMixC cI))) (aC cS (aC cS (aC cS aN))))))))))))))
    (zC (zSet 7 nd (callC hK tk C_pick (hr.mono (by decide)) hgd (aC (xV 0) (aC (bAddC hK (xV 6) (toClean (lsF (aC cS (aC cS (aC cS (aC cS aN))))))) aN))))
    (zC (zSetO 8 nd (lsF (aC (bAddC hK (bAddC hK (slC hK (xV 1) p_none (p_some (toMixC (xV 2)))) (xV 5)) (slC hK (xV 1) (p_some (toMixC (xV 2))) p_none)) (aC (bAddC hK (bAddC hK (slC hK (xV 1) p_none (p_some (toMixC (xV 2)))) (xV 5)) (slC hK (xV 1) (p_some (toMixC (bAddC hK (xV 2) cI))) p_none)) (aC (bAddC hK (slC hK (xV 1) p_none (p_some (toMixC (xV 2)))) (slC hK (xV 1) (p_some (toMixC (bAddC hK (xV 2) cI))) p_none)) (aC (bAddC hK (xV 1) cS) aN))))))
    (zC (zApp 8 (callC hK tk C_joined (hr.mono (by decide)) hgd (aC (bAddC hK (bAddC hK (slC hK (xV 3) p_none (p_some (toMixC (xV 4)))) (toClean (lsF (aC (xV 7) aN)))) (slC hK (xV 3) (p_some (toMixC (xV 4))) p_none)) aN)))
    (zC (zApp 8 (callC hK tk C_joined (hr.mono (by decide)) hgd (aC (bAddC hK (bAddC hK (slC hK (xV 3) p_none (p_some (toMixC (xV 4)))) (toClean (lsF (aC (xV 7) aN)))) (slC hK (xV 3) (p_some (toMixC (bAddC hK (xV 4) cI))) p_none)) aN)))
    (zC (s_ret (callX hK tk C_pick (hr.mono (by decide)) hgd (aX (toMixC (xV 0)) (aX (bAddX hK (xO 8) (toMixF (lsF (aC (callC hK tk C_joined (hr.mono (by decide)) hgd (aC (rvC hK (xV 3)) aN)) (aC (bAddC hK (bAddC hK (xV 1) cS) (xV 1)) aN))))) aN))))
    s_nil))))))))
theorem ok_twisted {P : Program} {w : World} {K : PySem.W.Frag} {mg : Str → Option Value} {base : Heap} {cl xc : Nat → Addr} {R f : Addr} {fd : FuncData} (hB : Blt mg) (hC : Cst mg)  (C_joined : Cal (jsN K cl xc xfT R) P w mg base 1 "_law_joined" 1 F_joined) (C_lift : Cal (jsN K cl xc xfT R) P w mg base 1 "_law_lift" 2 drawF) (C_pick : Cal (jsN K cl xc xfT R) P w mg base 2 "_law_pick" 2 F_pick) (F : L2.Fun K "_law_twisted" "_law_twisted" st_twisted f fd) (hm : mg "_law_twisted" = some (.ref f)) (hb : Binds K fd ["_law_jar", "_law_text"] []) :
    Cal (jsN K cl xc xfT R) P w mg base 3 "_law_twisted" 2 F_twisted :=
  ⟨⟨f, fd, ["_law_jar", "_law_text"], fnG_D F sc_twisted rfl (by decide) (fun cdv A outer s H E B hr hgd => b_twisted hB hC  C_joined C_lift C_pick  hr hgd), hm, F.kp, hb⟩, runF_len⟩


/-! ### _law_block -/
def f_block : Sv Nat := (sSeq (sSet 1 (eMs splitD (eVar 0) (eC (.str ":"))))
    (sSeq (sSet 2 (eComp [3] (iSeq (eVar 1)) (gNm 3) tYesD (eCall F_integer_of (aCons (eVar 3) aNil))))
    (sSeq (sIf (tOrD (tBl (eOp neD (eB lenB (aCons (eVar 1) aNil)) (eC (.int 2)))) (tOrD (tBl (eOp inD (eC .non) (eVar 2))) (tOrD (tNotD (tBl (eChain leD ltD (eC (.int 0)) (eOp idxD (eVar 2) (eC (.int 0))) (eC (.int 6))))) (tNotD (tBl (eChain leD leD (eC (.int 1)) (eOp idxD (eVar 2) (eC (.int 1))) (eOp powD (eC (.int 10)) (eC (.int 12))))))))) (sSeq (sRet (eC .non))
    sNil) sNil)
    (sSeq (sRet (eTup (aCons (eOp idxD (eVar 2) (eC (.int 0))) (aCons (eOp idxD (eVar 2) (eC (.int 1))) aNil))))
    sNil))))
instance : MoS f_block := by unfold f_block; infer_instance
def F_block : Fv Nat := runF 4 1 f_block
instance : MoF F_block := inferInstanceAs (MoF (runF 4 1 f_block))
def M_block : Nat → Bool := fun i => false
abbrev N_block : List Str := ["_law_word", "_law_parts", "_law_numbers", "_law_part"]
abbrev st_block : Stmt := top 27
theorem sc_block : FnScope N_block ["_law_word"] (defScope st_block) := ⟨rfl, rfl, rfl, by decide +kernel, rfl, by decide +kernel, by decide +kernel⟩
theorem b_block {P : Program} {w : World} {K : PySem.W.Frag} {mg : Str → Option Value} {base : Heap} {cl xc : Nat → Addr} {R f : Addr} {cdv : Value} {A : Around} {outer : List Env} {s : Shared} {H : Hp} {E : XK} {B : Bs} (hB : Blt mg) (hC : Cst mg)  (C_integer_of : Cal (jsN K cl xc xfT R) P w mg base 1 "_law_integer_of" 1 F_integer_of) 
    (hr : Room 1 (A.deeper (envOfC "_law_block" (defScope st_block) s.heap.objs.size f cdv))) (hgd : (A.deeper (envOfC "_law_block" (defScope st_block) s.heap.objs.size f cdv)).guards = some []) :
    PSs (cxE P w K mg base N_block "_law_block" (defScope st_block) f cdv A outer s H E) (defBody st_block) (rdS (jsN K cl xc xfT R) B M_block (WD E) f_block) := by
  have hu := hr.units
  have hv := hv_of hr
  have hK : K = (jsN K cl xc xfT R).K := rfl
  have nd := sc_block.nd
  have tk := takesE (P := P) (w := w) (K := K) (mg := mg) (base := base) (N := N_block) (qual := "_law_block") (scope := defScope st_block) (f := f) (cd := cdv) (A := A) (outer := outer) (s := s) (H := H) (E := E)
  have ow := ownE (P := P) (w := w) (K := K) (mg := mg) (base := base) (N := N_block) (qual := "_law_block") (scope := defScope st_block) (f := f) (cd := cdv) (A := A) (outer := outer) (s := s) (H := H) (E := E)
  exact (zC (zSet 1 nd (toClean (e_split (xV 0) cS)))
    (zC (setLc 2 [("_law_part", 3)] nd (blk_of N_block (defScope st_block) rfl rfl (by decide +kernel)) (iSq hK (xV 1)) (fun _ _ _ _ _ => (gN 3 nd)) (fun _ _ _ _ _ => ts0) (fun _ _ _ _ _ => (callC hK takesW0 C_integer_of (hr.mono (by decide)) hgd (aC (xV 3) aN))))
    (zC (s_if (PW.pt (t_or (tCp (kNe hK hu) s_ne (toMixC (kLen hK (hB _ h_len) (aX (toMixC (xV 1)) aN))) (toMixC cI)) (t_or (tIn (kIn hK hv) s_in (toMixC cN) (toMixC (xV 2))) (t_or (t_not (tCh (op_le) (op_lt) s_cmp s_cmp (toMixC cI) (toMixC (ixC hK (xV 2) cI)) (toMixC cI))) (t_or1 (t_not (tCh (op_le) (op_le) s_cmp s_cmp (toMixC cI) (toMixC (ixC hK (xV 2) cI)) (toMixC (bPow (toMixC cI) (toMixC cI)))))))))) (zC (s_ret cN)
    s_nil) s_nil)
    (zC (s_ret (tpC (aC (ixC hK (xV 2) cI) (aC (ixC hK (xV 2) cI) aN))))
    s_nil))))
theorem ok_block {P : Program} {w : World} {K : PySem.W.Frag} {mg : Str → Option Value} {base : Heap} {cl xc : Nat → Addr} {R f : Addr} {fd : FuncData} (hB : Blt mg) (hC : Cst mg)  (C_integer_of : Cal (jsN K cl xc xfT R) P w mg base 1 "_law_integer_of" 1 F_integer_of) (F : L2.Fun K "_law_block" "_law_block" st_block f fd) (hm : mg "_law_block" = some (.ref f)) (hb : Binds K fd ["_law_word"] []) :
    Cal (jsN K cl xc xfT R) P w mg base 2 "_law_block" 1 F_block :=
  ⟨⟨f, fd, ["_law_word"], fnG_D F sc_block rfl (by decide) (fun cdv A outer s H E B hr hgd => b_block hB hC  C_integer_of  hr hgd), hm, F.kp, hb⟩, runF_len⟩


/-! ### _law_exchange_of -/
def f_exchange_of : Sv Nat := (sSeq (sPr2 1 2 (eLst aNil) (eMs splitD (eVar 0) (eC (.str " "))))
    (sSeq (sFor (iEnmB (eVar 2)) (gTp (gsCons (gNm 3) (gsCons (gNm 4) gsNil))) (sSeq (sSet 5 (eCall F_block (aCons (eVar 4) aNil)))
    (sSeq (sIf (tOrD (tBl (eOp isND (eVar 5) (eC .non))) (tOrD (tBl (eOp eqD (eVar 3) (eC (.int 6)))) (tBl (eOp inD (eOp idxD (eVar 5) (eC (.int 0))) (eComp [8, 9] (iSeq (eVar 1)) (gTp (gsCons (gNm 8) (gsCons (gNm 9) gsNil))) tYesD (eVar 8)))))) (sSeq (sRet (eLst (aCons (eVar 3) aNil)))
    sNil) sNil)
    (sSeq (sApp 1 (eVar 5))
    sNil))))
    (sSeq (sSet 6 (eComp [8, 9] (iSeq (eVar 1)) (gTp (gsCons (gNm 8) (gsCons (gNm 9) gsNil))) tYesD (eVar 8)))
    (sSeq (sSet 7 (eComp [8, 9] (iSeq (eB sortP (aCons (eVar 1) aNil))) (gTp (gsCons (gNm 8) (gsCons (gNm 9) gsNil))) tYesD (eVar 9)))
    (sSeq (sIf (tOrD (tBl (eOp neD (eB sortD (aCons (eVar 6) aNil)) (eLrg (iRng1 (eB lenB (aCons (eVar 2) aNil)))))) (tBl (eOp gtD (eB sumB (aCons (eVar 7) aNil)) (eOp powD (eC (.int 10)) (eC (.int 12)))))) (sSeq (sRet (eLst (aCons (eB lenB (aCons (eVar 2) aNil)) aNil)))
    sNil) sNil)
    (sSeq (sRet (eTup (aCons (eB tupleB (aCons (eVar 7) aNil)) (aCons (eB tupleB (aCons (eVar 6) aNil)) aNil))))
    sNil))))))
instance : MoS f_exchange_of := by unfold f_exchange_of; infer_instance
def F_exchange_of : Fv Nat := runF 10 1 f_exchange_of
instance : MoF F_exchange_of := inferInstanceAs (MoF (runF 10 1 f_exchange_of))
def M_exchange_of : Nat → Bool := fun i => Nat.beq i 1
abbrev N_exchange_of : List Str := ["_law_text", "_law_pairs", "_law_words", "_law_index", "_law_word", "_law_pair", "_law_order", "_law_lengths", "_law_block_here", "_law_length"]
abbrev st_exchange_of : Stmt := top 28
theorem sc_exchange_of : FnScope N_exchange_of ["_law_text"] (defScope st_exchange_of) := ⟨rfl, rfl, rfl, by decide +kernel, rfl, by decide +kernel, by decide +kernel⟩
theorem b_exchange_of {P : Program} {w : World} {K : PySem.W.Frag} {mg : Str → Option Value} {base : Heap} {cl xc : Nat → Addr} {R f : Addr} {cdv : Value} {A : Around} {outer : List Env} {s : Shared} {H : Hp} {E : XK} {B : Bs} (hB : Blt mg) (hC : Cst mg)  (C_block : Cal (jsN K cl xc xfT R) P w mg base 2 "_law_block" 1 F_block) 
    (hr : Room 2 (A.deeper (envOfC "_law_exchange_of" (defScope st_exchange_of) s.heap.objs.size f cdv))) (hgd : (A.deeper (envOfC "_law_exchange_of" (defScope st_exchange_of) s.heap.objs.size f cdv)).guards = some []) :
    PSs (cxE P w K mg base N_exchange_of "_law_exchange_of" (defScope st_exchange_of) f cdv A outer s H E) (defBody st_exchange_of) (rdS (jsN K cl xc xfT R) B M_exchange_of (WD E) f_exchange_of) := by
  have hu := hr.units
  have hv := hv_of hr
  have hK : K = (jsN K cl xc xfT R).K := rfl
  have nd := sc_exchange_of.nd
  have tk := takesE (P := P) (w := w) (K := K) (mg := mg) (base := base) (N := N_exchange_of) (qual := "_law_exchange_of") (scope := defScope st_exchange_of) (f := f) (cd := cdv) (A := A) (outer := outer) (s := s) (H := H) (E := E)
  have ow := ownE (P := P) (w := w) (K := K) (mg := mg) (base := base) (N := N_exchange_of) (qual := "_law_exchange_of") (scope := defScope st_exchange_of) (f := f) (cd := cdv) (A := A) (outer := outer) (s := s) (H := H) (E := E)
  exact (zC (zPr2 1 2 nd (clO (lsF aN)) (clC (toClean (e_split (xV 0) cS))))
    (zC (zFor (i_enB hK (hB _ h_enumerate) (xV 2)) (gT hK (gsC_len (gsC_len gsN_len)) (gsC (gN 3 nd) (gsC (gN 4 nd) gs0))) (zC (zSet 5 nd (callC hK tk C_block (hr.mono (by decide)) hgd (aC (xV 4) aN)))
    (zC (s_if (PW.pt (t_or (tCp (op_isN) s_isN (toMixC (xV 5)) (toMixC cN)) (t_or (tCp (kEq hK hu) s_eq (toMixC (xV 3)) (toMixC cI)) (t_or1 (tIn (kIn hK hv) s_in (toMixC (ixC hK (xV 5) cI)) (toMixF (lcF [("_law_block_here", 8), ("_law_length", 9)] nd (blk_of N_exchange_of (defScope st_exchange_of) rfl rfl (by decide +kernel)) (iOw 1 hK) (fun _ _ _ _ _ => (gT hK (gsC_len (gsC_len gsN_len)) (gsC (gN 8 nd) (gsC (gN 9 nd) gs0)))) (fun _ _ _ _ _ => ts0) (fun _ _ _ _ _ => (xV 8))))))))) (zC (s_ret (lsF (aC (xV 3) aN)))
    s_nil) s_nil)
    (zC (zApp 1 (xV 5))
    s_nil))) (hp := ow))
    (zC (setLc 6 [("_law_block_here", 8), ("_law_length", 9)] nd (blk_of N_exchange_of (defScope st_exchange_of) rfl rfl (by decide +kernel)) (iOw 1 hK) (fun _ _ _ _ _ => (gT hK (gsC_len (gsC_len gsN_len)) (gsC (gN 8 nd) (gsC (gN 9 nd) gs0)))) (fun _ _ _ _ _ => ts0) (fun _ _ _ _ _ => (xV 8)))
    (zC (setLc 7 [("_law_block_here", 8), ("_law_length", 9)] nd (blk_of N_exchange_of (defScope st_exchange_of) rfl rfl (by decide +kernel)) (iSq hK (toClean (srO (i := 1) hK hu (hB _ h_sorted)))) (fun _ _ _ _ _ => (gT hK (gsC_len (gsC_len gsN_len)) (gsC (gN 8 nd) (gsC (gN 9 nd) gs0)))) (fun _ _ _ _ _ => ts0) (fun _ _ _ _ _ => (xV 9)))
    (zC (s_if (PW.pt (t_or (tCp (kNe hK hu) s_ne (toMixF (kSortD hK (hB _ h_sorted) (aX (toMixC (xV 6)) aN))) (toMixF (lR1 (hB _ h_list) (hB _ h_range) (toMixC (kLen hK (hB _ h_len) (aX (toMixC (xV 2)) aN)))))) (t_or1 (tCp (op_gt) s_cmp (toMixC (kSum hK (hB _ h_sum) (aX (toMixC (xV 7)) aN))) (toMixC (bPow (toMixC cI) (toMixC cI))))))) (zC (s_ret (lsF (aC (kLen hK (hB _ h_len) (aX (toMixC (xV 2)) aN)) aN)))
    s_nil) s_nil)
    (zC (s_ret (tpC (aC (kTupC hK (hB _ h_tuple) (aC (xV 7) aN)) (aC (kTupC hK (hB _ h_tuple) (aC (xV 6) aN)) aN))))
    s_nil))))))
theorem ok_exchange_of {P : Program} {w : World} {K : PySem.W.Frag} {mg : Str → Option Value} {base : Heap} {cl xc : Nat → Addr} {R f : Addr} {fd : FuncData} (hB : Blt mg) (hC : Cst mg)  (C_block : Cal (jsN K cl xc xfT R) P w mg base 2 "_law_block" 1 F_block) (F : L2.Fun K "_law_exchange_of" "_law_exchange_of" st_exchange_of f fd) (hm : mg "_law_exchange_of" = some (.ref f)) (hb : Binds K fd ["_law_text"] []) :
    Cal (jsN K cl xc xfT R) P w mg base 3 "_law_exchange_of" 1 F_exchange_of :=
  ⟨⟨f, fd, ["_law_text"], fnG_D F sc_exchange_of rfl (by decide) (fun cdv A outer s H E B hr hgd => b_exchange_of hB hC  C_block  hr hgd), hm, F.kp, hb⟩, runF_len⟩


/-! ### read_integer -/
def f_p_read_integer : Sv Nat := (sSeq (sSet 1 (eIf (tBl (eOp eqD (eSl sliceD (eVar 0) pNone (pSome (eC (.int 1)))) (eC (.str "-")))) (eSl sliceD (eVar 0) (pSome (eC (.int 1))) pNone) (eVar 0)))
    (sSeq (sIf (tOrD (tNotD (tBl (eChain leD leD (eC (.int 1)) (eB lenB (aCons (eVar 1) aNil)) (eC (.int 20))))) (tNotD (tOf (eB allB (aCons (eComp [2] (iSeq (eVar 1)) (gNm 2) tYesD (eOp inS (eVar 2) (eC (.str "0123456789")))) aNil))))) (sSeq (sRet (eC .non))
    sNil) sNil)
    (sSeq (sIf (tAndD (tBl (eOp eqD (eOp idxD (eVar 1) (eC (.int 0))) (eC (.str "0")))) (tBl (eOp neD (eVar 0) (eC (.str "0"))))) (sSeq (sRet (eC .non))
    sNil) sNil)
    (sSeq (sRet (eB intS (aCons (eVar 0) aNil)))
    sNil))))
instance : MoS f_p_read_integer := by unfold f_p_read_integer; infer_instance
def F_p_read_integer : Fv Nat := runF 3 1 f_p_read_integer
instance : MoF F_p_read_integer := inferInstanceAs (MoF (runF 3 1 f_p_read_integer))
def M_p_read_integer : Nat → Bool := fun i => false
abbrev N_p_read_integer : List Str := ["word", "digits", "sign"]
abbrev st_p_read_integer : Stmt := top 13
theorem sc_p_read_integer : FnScope N_p_read_integer ["word"] (defScope st_p_read_integer) := ⟨rfl, rfl, rfl, by decide +kernel, rfl, by decide +kernel, by decide +kernel⟩
theorem b_p_read_integer {P : Program} {w : World} {K : PySem.W.Frag} {mg : Str → Option Value} {base : Heap} {cl xc : Nat → Addr} {R f : Addr} {cdv : Value} {A : Around} {outer : List Env} {s : Shared} {H : Hp} {E : XK} {B : Bs} (hB : Blt mg) (hC : Cst mg)   
    (hr : Room 0 (A.deeper (envOfC "read_integer" (defScope st_p_read_integer) s.heap.objs.size f cdv))) (hgd : (A.deeper (envOfC "read_integer" (defScope st_p_read_integer) s.heap.objs.size f cdv)).guards = some []) :
    PSs (cxE P w K mg base N_p_read_integer "read_integer" (defScope st_p_read_integer) f cdv A outer s H E) (defBody st_p_read_integer) (rdS (jsN K cl xc xfT R) B M_p_read_integer (WD E) f_p_read_integer) := by
  have hu := hr.units
  have hv := hv_of hr
  have hK : K = (jsN K cl xc xfT R).K := rfl
  have nd := sc_p_read_integer.nd
  have tk := takesE (P := P) (w := w) (K := K) (mg := mg) (base := base) (N := N_p_read_integer) (qual := "read_integer") (scope := defScope st_p_read_integer) (f := f) (cd := cdv) (A := A) (outer := outer) (s := s) (H := H) (E := E)
  have ow := ownE (P := P) (w := w) (K := K) (mg := mg) (base := base) (N := N_p_read_integer) (qual := "read_integer") (scope := defScope st_p_read_integer) (f := f) (cd := cdv) (A := A) (outer := outer) (s := s) (H := H) (E := E)
  exact (zC (zSet 1 nd (e_if (tCp (kEq hK hu) s_eq (toMixC (slC hK (xV 0) p_none (p_some (toMixC cI)))) (toMixC cS)) (slC hK (xV 0) (p_some (toMixC cI)) p_none) (xV 0)))
    (zC (s_if (PW.pt (t_or (t_not (tCh (op_le) (op_le) s_cmp s_cmp (toMixC cI) (toMixC (kLen hK (hB _ h_len) (aX (toMixC (xV 1)) aN))) (toMixC (gI (hC.1 _ c_LONGEST))))) (t_or1 (t_not (tTr hK (toMixC (kAll hK (hB _ h_all) (aX (toMixF (lcF [("sign", 2)] nd (blk_of N_p_read_integer (defScope st_p_read_integer) rfl rfl (by decide +kernel)) (iSq hK (xV 1)) (fun _ _ _ _ _ => (gN 2 nd)) (fun _ _ _ _ _ => ts0) (fun _ _ _ _ _ => (eIn op_in_sign s_inS (toMixC (xV 2)) (toMixC (gS (hC.2 _ s_DIGITS))))))) aN)))))))) (zC (s_ret cN)
    s_nil) s_nil)
    (zC (s_if (PW.pt (t_and (tCp (kEq hK hu) s_eq (toMixC (ixC hK (xV 1) cI)) (toMixC cS)) (t_and1 (tCp (kNe hK hu) s_ne (toMixC (xV 0)) (toMixC cS))))) (zC (s_ret cN)
    s_nil) s_nil)
    (zC (s_ret (kIntS (hB _ h_int) (aX (toMixC (xV 0)) aN)))
    s_nil))))
theorem ok_p_read_integer {P : Program} {w : World} {K : PySem.W.Frag} {mg : Str → Option Value} {base : Heap} {cl xc : Nat → Addr} {R f : Addr} {fd : FuncData} (hB : Blt mg) (hC : Cst mg)   (F : L2.Fun K "read_integer" "read_integer" st_p_read_integer f fd) (hm : mg "read_integer" = some (.ref f)) (hb : Binds K fd ["word"] []) :
    Cal (jsN K cl xc xfT R) P w mg base 1 "read_integer" 1 F_p_read_integer :=
  ⟨⟨f, fd, ["word"], fnG_D F sc_p_read_integer rfl (by decide) (fun cdv A outer s H E B hr hgd => b_p_read_integer hB hC    hr hgd), hm, F.kp, hb⟩, runF_len⟩


/-! ### is_integer -/
def f_p_is_integer {J : Type} : Sv J := (sSeq (sRet (eAnd (eUn (isiD "int") (eVar 0)) (eAnd (eNot (eUn (isiD "bool") (eVar 0))) (eChain leD leD (eVar 1) (eVar 0) (eVar 2)))))
    sNil)
instance {J : Type} : MoS (f_p_is_integer : Sv J) := by unfold f_p_is_integer; infer_instance
def F_p_is_integer {J : Type} : Fv J := runF 3 3 f_p_is_integer
instance {J : Type} : MoF (F_p_is_integer : Fv J) := inferInstanceAs (MoF (runF 3 3 f_p_is_integer : Fv J))
def M_p_is_integer : Nat → Bool := fun i => false
abbrev N_p_is_integer : List Str := ["value", "low", "high"]
abbrev st_p_is_integer : Stmt := top 9
theorem sc_p_is_integer : FnScope N_p_is_integer ["value", "low", "high"] (defScope st_p_is_integer) := ⟨rfl, rfl, rfl, by decide +kernel, rfl, by decide +kernel, by decide +kernel⟩
theorem b_p_is_integer {J : Type} {S : Js J} {P : Program} {w : World} {mg : Str → Option Value} {base : Heap} {f : Addr} {cdv : Value} {A : Around} {outer : List Env} {s : Shared} {H : Hp} {E : XK} {B : Bs} (hB : Blt mg) (hC : Cst mg)   
    (hr : Room 0 (A.deeper (envOfC "is_integer" (defScope st_p_is_integer) s.heap.objs.size f cdv))) (hgd : (A.deeper (envOfC "is_integer" (defScope st_p_is_integer) s.heap.objs.size f cdv)).guards = some []) :
    PSs (cxE P w S.K mg base N_p_is_integer "is_integer" (defScope st_p_is_integer) f cdv A outer s H E) (defBody st_p_is_integer) (rdS S B M_p_is_integer (WD E) f_p_is_integer) := by
  have hu := hr.units
  have hv := hv_of hr
  have hK : S.K = S.K := rfl
  have nd := sc_p_is_integer.nd
  have tk := takesE (P := P) (w := w) (K := S.K) (mg := mg) (base := base) (N := N_p_is_integer) (qual := "is_integer") (scope := defScope st_p_is_integer) (f := f) (cd := cdv) (A := A) (outer := outer) (s := s) (H := H) (E := E)
  have ow := ownE (P := P) (w := w) (K := S.K) (mg := mg) (base := base) (N := N_p_is_integer) (qual := "is_integer") (scope := defScope st_p_is_integer) (f := f) (cd := cdv) (A := A) (outer := outer) (s := s) (H := H) (E := E)
  exact (zC (s_ret (e_and (k := true) hK (e_isi hK (hB _ h_isinstance) (hB _ h_int) bt_int (toMixC (xV 0))) (e_and (k := true) hK (e_not hK (toMixC (e_isi hK (hB _ h_isinstance) (hB _ h_bool) bt_bool (toMixC (xV 0))))) (e_one (eCh (op_le) (op_le) s_cmp s_cmp (toMixC (xV 1)) (toMixC (xV 0)) (toMixC (xV 2)))))))
    s_nil)
theorem ok_p_is_integer {J : Type} {S : Js J} {P : Program} {w : World} {mg : Str → Option Value} {base : Heap} {K : PySem.W.Frag} {cl xc : Nat → Addr} {xf : Nat → Str} {f : Addr} {fd : FuncData} (hS : Lk K cl xc xf S) (hB : Blt mg) (hC : Cst mg)   (F : L2.Fun K "is_integer" "is_integer" st_p_is_integer f fd) (hm : mg "is_integer" = some (.ref f)) (hb : Binds K fd ["value", "low", "high"] []) :
    Cal S P w mg base 1 "is_integer" 3 F_p_is_integer := by
  obtain ⟨rfl, rfl, rfl, rfl⟩ := hS
  exact ⟨⟨f, fd, ["value", "low", "high"], fnG_D F sc_p_is_integer rfl (by decide) (fun cdv A outer s H E B hr hgd => b_p_is_integer hB hC    hr hgd), hm, F.kp, hb⟩, runF_len⟩


/-! ### read_block -/
def f_p_read_block : Sv Nat := (sSeq (sSet 1 (eComp [2] (iSeq (eMs splitD (eVar 0) (eC (.str ":")))) (gNm 2) tYesD (eCall F_p_read_integer (aCons (eVar 2) aNil))))
    (sSeq (sIf (tOrD (tBl (eOp neD (eB lenB (aCons (eVar 1) aNil)) (eC (.int 2)))) (tNotD (tOf (eCall F_p_is_integer (aCons (eOp idxD (eVar 1) (eC (.int 0))) (aCons (eC (.int 0)) (aCons (eOp subD (eC (.int 6)) (eC (.int 1))) aNil))))))) (sSeq (sRet (eC .non))
    sNil) sNil)
    (sSeq (sRet (eIf (tOf (eCall F_p_is_integer (aCons (eOp idxD (eVar 1) (eC (.int 1))) (aCons (eC (.int 1)) (aCons (eC (.int 1000000000000)) aNil))))) (eTup (aCons (eOp idxD (eVar 1) (eC (.int 0))) (aCons (eOp idxD (eVar 1) (eC (.int 1))) aNil))) (eC .non)))
    sNil)))
instance : MoS f_p_read_block := by unfold f_p_read_block; infer_instance
def F_p_read_block : Fv Nat := runF 3 1 f_p_read_block
instance : MoF F_p_read_block := inferInstanceAs (MoF (runF 3 1 f_p_read_block))
def M_p_read_block : Nat → Bool := fun i => false
abbrev N_p_read_block : List Str := ["word", "numbers", "part"]
abbrev st_p_read_block : Stmt := top 14
theorem sc_p_read_block : FnScope N_p_read_block ["word"] (defScope st_p_read_block) := ⟨rfl, rfl, rfl, by decide +kernel, rfl, by decide +kernel, by decide +kernel⟩
theorem b_p_read_block {P : Program} {w : World} {K : PySem.W.Frag} {mg : Str → Option Value} {base : Heap} {cl xc : Nat → Addr} {R f : Addr} {cdv : Value} {A : Around} {outer : List Env} {s : Shared} {H : Hp} {E : XK} {B : Bs} (hB : Blt mg) (hC : Cst mg)  (C_p_is_integer : Cal (jsN K cl xc xfT R) P w mg base 1 "is_integer" 3 F_p_is_integer) (C_p_read_integer : Cal (jsN K cl xc xfT R) P w mg base 1 "read_integer" 1 F_p_read_integer) 
    (hr : Room 1 (A.deeper (envOfC "read_block" (defScope st_p_read_block) s.heap.objs.size f cdv))) (hgd : (A.deeper (envOfC "read_block" (defScope st_p_read_block) s.heap.objs.size f cdv)).guards = some []) :
    PSs (cxE P w K mg base N_p_read_block "read_block" (defScope st_p_read_block) f cdv A outer s H E) (defBody st_p_read_block) (rdS (jsN K cl xc xfT R) B M_p_read_block (WD E) f_p_read_block) := by
  have hu := hr.units
  have hv := hv_of hr
  have hK : K = (jsN K cl xc xfT R).K := rfl
  have nd := sc_p_read_block.nd
  have tk := takesE (P := P) (w := w) (K := K) (mg := mg) (base := base) (N := N_p_read_block) (qual := "read_block") (scope := defScope st_p_read_block) (f := f) (cd := cdv) (A := A) (outer := outer) (s := s) (H := H) (E := E)
  have ow := ownE (P := P) (w := w) (K := K) (mg := mg) (base := base) (N := N_p_read_block) (qual := "read_block") (scope := defScope st_p_read_block) (f := f) (cd := cdv) (A := A) (outer := outer) (s := s) (H := H) (E := E)
  exact (zC (setLc 1 [("part", 2)] nd (blk_of N_p_read_block (defScope st_p_read_block) rfl rfl (by decide +kernel)) (iSq hK (toClean (e_split (xV 0) cS))) (fun _ _ _ _ _ => (gN 2 nd)) (fun _ _ _ _ _ => ts0) (fun _ _ _ _ _ => (callC hK takesW0 C_p_read_integer (hr.mono (by decide)) hgd (aC (xV 2) aN))))
    (zC (s_if (PW.pt (t_or (tCp (kNe hK hu) s_ne (toMixC (kLen hK (hB _ h_len) (aX (toMixC (xV 1)) aN))) (toMixC cI)) (t_or1 (t_not (tTr hK (toMixC (callC hK tk C_p_is_integer (hr.mono (by decide)) hgd (aC (ixC hK (xV 1) cI) (aC cI (aC (bSub (toMixC (gI (hC.1 _ c_MAX_BLOCKS))) (toMixC cI)) aN)))))))))) (zC (s_ret cN)
    s_nil) s_nil)
    (zC (s_ret (e_if (tTr hK (toMixC (callC hK tk C_p_is_integer (hr.mono (by decide)) hgd (aC (ixC hK (xV 1) cI) (aC cI (aC (gI (hC.1 _ c_MAX_PLACES)) aN)))))) (tpC (aC (ixC hK (xV 1) cI) (aC (ixC hK (xV 1) cI) aN))) cN))
    s_nil)))
theorem ok_p_read_block {P : Program} {w : World} {K : PySem.W.Frag} {mg : Str → Option Value} {base : Heap} {cl xc : Nat → Addr} {R f : Addr} {fd : FuncData} (hB : Blt mg) (hC : Cst mg)  (C_p_is_integer : Cal (jsN K cl xc xfT R) P w mg base 1 "is_integer" 3 F_p_is_integer) (C_p_read_integer : Cal (jsN K cl xc xfT R) P w mg base 1 "read_integer" 1 F_p_read_integer) (F : L2.Fun K "read_block" "read_block" st_p_read_block f fd) (hm : mg "read_block" = some (.ref f)) (hb : Binds K fd ["word"] []) :
    Cal (jsN K cl xc xfT R) P w mg base 2 "read_block" 1 F_p_read_block :=
  ⟨⟨f, fd, ["word"], fnG_D F sc_p_read_block rfl (by decide) (fun cdv A outer s H E B hr hgd => b_p_read_block hB hC  C_p_is_integer C_p_read_integer  hr hgd), hm, F.kp, hb⟩, runF_len⟩


/-! ### parse_exchange -/
def f_p_parse_exchange : Sv Nat := (sSeq (sIf (tNotD (tOf (eUn (isiD "str") (eVar 0)))) (sSeq (sRaise 2 (eC .non))
    sNil) sNil)
    (sSeq (sSet 1 (eC (.dct [])))
    (sSeq (sFor (iEnmB (eMs splitD (eVar 0) (eC (.str " ")))) (gTp (gsCons (gNm 2) (gsCons (gNm 3) gsNil))) (sSeq (sSet 4 (eCall F_p_read_block (aCons (eVar 3) aNil)))
    (sSeq (sIf (tOrD (tBl (eOp isND (eVar 4) (eC .non))) (tOrD (tBl (eOp dinD (eOp idxD (eVar 4) (eC (.int 0))) (eVar 1))) (tBl (eOp geD (eVar 2) (eC (.int 6)))))) (sSeq (sRaise 2 (eVar 2))
    sNil) sNil)
    (sSeq (sSetK 1 (eOp idxD (eVar 4) (eC (.int 0))) (eOp idxD (eVar 4) (eC (.int 1))))
    sNil))))
    (sSeq (sSet 5 (eB tupleB (aCons (eB listDcB (aCons (eVar 1) aNil)) aNil)))
    (sSeq (sIf (tOrD (tBl (eOp neD (eB sortD (aCons (eVar 5) aNil)) (eLrg (iRng1 (eB lenB (aCons (eVar 5) aNil)))))) (tBl (eOp gtD (eB sumB (aCons (eComp [6] (iSeq (eVar 5)) (gNm 6) tYesD (eOp dgetD (eVar 1) (eVar 6))) aNil)) (eC (.int 1000000000000))))) (sSeq (sRaise 2 (eB lenB (aCons (eVar 5) aNil)))
    sNil) sNil)
    (sSeq (sRet (eTup (aCons (eB tupleB (aCons (eComp [6] (iRng1 (eB lenB (aCons (eVar 5) aNil))) (gNm 6) tYesD (eOp dgetD (eVar 1) (eVar 6))) aNil)) (aCons (eVar 5) aNil))))
    sNil))))))
instance : MoS f_p_parse_exchange := by unfold f_p_parse_exchange; infer_instance
def F_p_parse_exchange : Fv Nat := runF 7 1 f_p_parse_exchange
instance : MoF F_p_parse_exchange := inferInstanceAs (MoF (runF 7 1 f_p_parse_exchange))
def M_p_parse_exchange : Nat → Bool := fun i => Nat.beq i 1
abbrev N_p_parse_exchange : List Str := ["value", "found", "number", "word", "pair", "order", "block"]
abbrev st_p_parse_exchange : Stmt := top 15
theorem sc_p_parse_exchange : FnScope N_p_parse_exchange ["value"] (defScope st_p_parse_exchange) := ⟨rfl, rfl, rfl, by decide +kernel, rfl, by decide +kernel, by decide +kernel⟩
theorem b_p_parse_exchange {P : Program} {w : World} {K : PySem.W.Frag} {mg : Str → Option Value} {base : Heap} {cl xc : Nat → Addr} {R f : Addr} {cdv : Value} {A : Around} {outer : List Env} {s : Shared} {H : Hp} {E : XK} {B : Bs} (hB : Blt mg) (hC : Cst mg)  (C_p_read_block : Cal (jsN K cl xc xfT R) P w mg base 2 "read_block" 1 F_p_read_block) (X_BadText : XMk (jsN K cl xc xfT R) P w mg base 2 "BadText") 
    (hr : Room 2 (A.deeper (envOfC "parse_exchange" (defScope st_p_parse_exchange) s.heap.objs.size f cdv))) (hgd : (A.deeper (envOfC "parse_exchange" (defScope st_p_parse_exchange) s.heap.objs.size f cdv)).guards = some []) :
    PSs (cxE P w K mg base N_p_parse_exchange "parse_exchange" (defScope st_p_parse_exchange) f cdv A outer s H E) (defBody st_p_parse_exchange) (rdS (jsN K cl xc xfT R) B M_p_parse_exchange (WD E) f_p_parse_exchange) := by
  have hu := hr.units
  have hv := hv_of hr
  have hK : K = (jsN K cl xc xfT R).K := rfl
  have nd := sc_p_parse_exchange.nd
  have tk := takesE (P := P) (w := w) (K := K) (mg := mg) (base := base) (N := N_p_parse_exchange) (qual := "parse_exchange") (scope := defScope st_p_parse_exchange) (f := f) (cd := cdv) (A := A) (outer := outer) (s := s) (H := H) (E := E)
  have ow := ownE (P := P) (w := w) (K := K) (mg := mg) (base := base) (N := N_p_parse_exchange) (qual := "parse_exchange") (scope := defScope st_p_parse_exchange) (f := f) (cd := cdv) (A := A) (outer := outer) (s := s) (H := H) (E := E)
  exact (zC (s_if (t_not (tTr hK (toMixC (e_isi hK (hB _ h_isinstance) (hB _ h_str) bt_str (toMixC (xV 0)))))) (zC (zRaise 2 hK tk X_BadText (hr.mono (by decide)) cN)
    s_nil) s_nil)
    (zC (zSetO 1 nd dct0)
    (zC (zFor (i_enB hK (hB _ h_enumerate) (toClean (e_split (xV 0) cS))) (gT hK (gsC_len (gsC_len gsN_len)) (gsC (gN 2 nd) (gsC (gN 3 nd) gs0))) (zC (zSet 4 nd (callC hK tk C_p_read_block (hr.mono (by decide)) hgd (aC (xV 3) aN)))
    (zC (s_if (PW.pt (t_or (tCp (op_isN) s_isN (toMixC (xV 4)) (toMixC cN)) (t_or (tIn (op_din hu) s_din (toMixC (ixC hK (xV 4) cI)) (xO 1)) (t_or1 (tCp (op_ge) s_cmp (toMixC (xV 2)) (toMixC (gI (hC.1 _ c_MAX_BLOCKS)))))))) (zC (zRaise 2 hK tk X_BadText (hr.mono (by decide)) (xV 2))
    s_nil) s_nil)
    (zC (zSetK 1 hu (ixC hK (xV 4) cI) (toMixC (ixC hK (xV 4) cI)))
    s_nil))) (hp := ow))
    (zC (zSet 5 nd (kTupC hK (hB _ h_tuple) (aC (toClean (loO (i := 1) (hB _ h_list))) aN)))
    (zC (s_if (PW.pt (t_or (tCp (kNe hK hu) s_ne (toMixF (kSortD hK (hB _ h_sorted) (aX (toMixC (xV 5)) aN))) (toMixF (lR1 (hB _ h_list) (hB _ h_range) (toMixC (kLen hK (hB _ h_len) (aX (toMixC (xV 5)) aN)))))) (t_or1 (tCp (op_gt) s_cmp (toMixC (kSum hK (hB _ h_sum) (aX (toMixF (lcF [("block", 6)] nd (blk_of N_p_parse_exchange (defScope st_p_parse_exchange) rfl rfl (by decide +kernel)) (iSq hK (xV 5)) (fun _ _ _ _ _ => (gN 6 nd)) (fun _ _ _ _ _ => ts0) (fun _ _ _ _ _ => (dgO (i := 1) hu (toMixC (xV 6)))))) aN))) (toMixC (gI (hC.1 _ c_MAX_PLACES))))))) (zC (zRaise 2 hK tk X_BadText (hr.mono (by decide)) (kLen hK (hB _ h_len) (aX (toMixC (xV 5)) aN)))
    s_nil) s_nil)
    (zC (s_ret (tpC (aC (kTupC hK (hB _ h_tuple) (aC (toClean (lcF [("block", 6)] nd (blk_of N_p_parse_exchange (defScope st_p_parse_exchange) rfl rfl (by decide +kernel)) (iR1 (hB _ h_range) (toMixC (kLen hK (hB _ h_len) (aX (toMixC (xV 5)) aN)))) (fun _ _ _ _ _ => (gN 6 nd)) (fun _ _ _ _ _ => ts0) (fun _ _ _ _ _ => (dgO (i := 1) hu (toMixC (xV 6)))))) aN)) (aC (xV 5) aN))))
    s_nil))))))
theorem ok_p_parse_exchange {P : Program} {w : World} {K : PySem.W.Frag} {mg : Str → Option Value} {base : Heap} {cl xc : Nat → Addr} {R f : Addr} {fd : FuncData} (hB : Blt mg) (hC : Cst mg)  (C_p_read_block : Cal (jsN K cl xc xfT R) P w mg base 2 "read_block" 1 F_p_read_block) (X_BadText : XMk (jsN K cl xc xfT R) P w mg base 2 "BadText") (F : L2.Fun K "parse_exchange" "parse_exchange" st_p_parse_exchange f fd) (hm : mg "parse_exchange" = some (.ref f)) (hb : Binds K fd ["value"] []) :
    Cal (jsN K cl xc xfT R) P w mg base 3 "parse_exchange" 1 F_p_parse_exchange :=
  ⟨⟨f, fd, ["value"], fnG_D F sc_p_parse_exchange rfl (by decide) (fun cdv A outer s H E B hr hgd => b_p_parse_exchange hB hC  C_p_read_block X_BadText hr hgd), hm, F.kp, hb⟩, runF_len⟩


/-! ### parse_integer -/
def f_p_parse_integer : Sv Nat := (sSeq (sIf (tNotD (tOf (eUn (isiD "str") (eVar 0)))) (sSeq (sRaise 2 (eC .non))
    sNil) sNil)
    (sSeq (sSet 1 (eCall F_p_read_integer (aCons (eVar 0) aNil)))
    (sSeq (sIf (tBl (eOp isND (eVar 1) (eC .non))) (sSeq (sRaise 2 (eC (.int 0)))
    sNil) sNil)
    (sSeq (sRet (eVar 1))
    sNil))))
instance : MoS f_p_parse_integer := by unfold f_p_parse_integer; infer_instance
def F_p_parse_integer : Fv Nat := runF 2 1 f_p_parse_integer
instance : MoF F_p_parse_integer := inferInstanceAs (MoF (runF 2 1 f_p_parse_integer))
def M_p_parse_integer : Nat → Bool := fun i => false
abbrev N_p_parse_integer : List Str := ["value", "number"]
abbrev st_p_parse_integer : Stmt := top 16
theorem sc_p_parse_integer : FnScope N_p_parse_integer ["value"] (defScope st_p_parse_integer) := ⟨rfl, rfl, rfl, by decide +kernel, rfl, by decide +kernel, by decide +kernel⟩
theorem b_p_parse_integer {P : Program} {w : World} {K : PySem.W.Frag} {mg : Str → Option Value} {base : Heap} {cl xc : Nat → Addr} {R f : Addr} {cdv : Value} {A : Around} {outer : List Env} {s : Shared} {H : Hp} {E : XK} {B : Bs} (hB : Blt mg) (hC : Cst mg)  (C_p_read_integer : Cal (jsN K cl xc xfT R) P w mg base 1 "read_integer" 1 F_p_read_integer) (X_BadText : XMk (jsN K cl xc xfT R) P w mg base 2 "BadText") 
    (hr : Room 2 (A.deeper (envOfC "parse_integer" (defScope st_p_parse_integer) s.heap.objs.size f cdv))) (hgd : (A.deeper (envOfC "parse_integer" (defScope st_p_parse_integer) s.heap.objs.size f cdv)).guards = some []) :
    PSs (cxE P w K mg base N_p_parse_integer "parse_integer" (defScope st_p_parse_integer) f cdv A outer s H E) (defBody st_p_parse_integer) (rdS (jsN K cl xc xfT R) B M_p_parse_integer (WD E) f_p_parse_integer) := by
  have hu := hr.units
  have hv := hv_of hr
  have hK : K = (jsN K cl xc xfT R).K := rfl
  have nd := sc_p_parse_integer.nd
  have tk := takesE (P := P) (w := w) (K := K) (mg := mg) (base := base) (N := N_p_parse_integer) (qual := "parse_integer") (scope := defScope st_p_parse_integer) (f := f) (cd := cdv) (A := A) (outer := outer) (s := s) (H := H) (E := E)
  have ow := ownE (P := P) (w := w) (K := K) (mg := mg) (base := base) (N := N_p_parse_integer) (qual := "parse_integer") (scope := defScope st_p_parse_integer) (f := f) (cd := cdv) (A := A) (outer := outer) (s := s) (H := H) (E := E)
  exact (zC (s_if (t_not (tTr hK (toMixC (e_isi hK (hB _ h_isinstance) (hB _ h_str) bt_str (toMixC (xV 0)))))) (zC (zRaise 2 hK tk X_BadText (hr.mono (by decide)) cN)
    s_nil) s_nil)
    (zC (zSet 1 nd (callC hK tk C_p_read_integer (hr.mono (by decide)) hgd (aC (xV 0) aN)))
    (zC (s_if (tCp (op_isN) s_isN (toMixC (xV 1)) (toMixC cN)) (zC (zRaise 2 hK tk X_BadText (hr.mono (by decide)) cI)
    s_nil) s_nil)
    (zC (s_ret (xV 1))
    s_nil))))
theorem ok_p_parse_integer {P : Program} {w : World} {K : PySem.W.Frag} {mg : Str → Option Value} {base : Heap} {cl xc : Nat → Addr} {R f : Addr} {fd : FuncData} (hB : Blt mg) (hC : Cst mg)  (C_p_read_integer : Cal (jsN K cl xc xfT R) P w mg base 1 "read_integer" 1 F_p_read_integer) (X_BadText : XMk (jsN K cl xc xfT R) P w mg base 2 "BadText") (F : L2.Fun K "parse_integer" "parse_integer" st_p_parse_integer f fd) (hm : mg "parse_integer" = some (.ref f)) (hb : Binds K fd ["value"] []) :
    Cal (jsN K cl xc xfT R) P w mg base 3 "parse_integer" 1 F_p_parse_integer :=
  ⟨⟨f, fd, ["value"], fnG_D F sc_p_parse_integer rfl (by decide) (fun cdv A outer s H E B hr hgd => b_p_parse_integer hB hC  C_p_read_integer X_BadText hr hgd), hm, F.kp, hb⟩, runF_len⟩


/-! ### _law_found -/
def f_found : Sv Nat := (sSeq (sSet 2 (eC .non))
    (sSeq (sTry 3 (fun k => tT k 0) (sSeq (sSet 2 (eIf (tBl (eOp eqD (eVar 0) (eC (.int 0)))) (eCall F_p_parse_exchange (aCons (eVar 1) aNil)) (eCall F_p_parse_integer (aCons (eVar 1) aNil))))
    sNil) (fun a ex => (sSeq (sSet 4 (eAnd (eIsX0 a true (eVar 3)) (eNot (eIsX0 a (List.any [3, 1, 4] (tT ex.c)) (eVar 3)))))
    (sSeq (sSet 2 (eIf (tAndD (tOf (eVar 4)) (tOf (eIsX0 a (tT ex.c 2) (eVar 3)))) (eLst (aCons (eXf a (xfT ex.c = "index") ex.d (eVar 3)) aNil)) (eC (.str "other"))))
    sNil))))
    (sSeq (sRet (eVar 2))
    sNil)))
instance : MoS f_found := by unfold f_found; infer_instance
def F_found : Fv Nat := runF 5 2 f_found
instance : MoF F_found := inferInstanceAs (MoF (runF 5 2 f_found))
def M_found : Nat → Bool := fun i => false
abbrev N_found : List Str := ["_law_way", "_law_value", "_law_found_here", "error", "_law_alone"]
abbrev st_found : Stmt := top 29
theorem sc_found : FnScope N_found ["_law_way", "_law_value"] (defScope st_found) := ⟨rfl, rfl, rfl, by decide +kernel, rfl, by decide +kernel, by decide +kernel⟩
theorem b_found {P : Program} {w : World} {K : PySem.W.Frag} {mg : Str → Option Value} {base : Heap} {cl xc : Nat → Addr} {R f : Addr} {cdv : Value} {A : Around} {outer : List Env} {s : Shared} {H : Hp} {E : XK} {B : Bs} (hB : Blt mg) (hC : Cst mg)  (C_p_parse_exchange : Cal (jsN K cl xc xfT R) P w mg base 3 "parse_exchange" 1 F_p_parse_exchange) (C_p_parse_integer : Cal (jsN K cl xc xfT R) P w mg base 3 "parse_integer" 1 F_p_parse_integer) (hX : XT K mg xc tT xn xnames xattrs) 
    (hr : Room 3 (A.deeper (envOfC "_law_found" (defScope st_found) s.heap.objs.size f cdv))) (hgd : (A.deeper (envOfC "_law_found" (defScope st_found) s.heap.objs.size f cdv)).guards = some []) :
    PSs (cxE P w K mg base N_found "_law_found" (defScope st_found) f cdv A outer s H E) (defBody st_found) (rdS (jsN K cl xc xfT R) B M_found (WD E) f_found) := by
  have hu := hr.units
  have hv := hv_of hr
  have hK : K = (jsN K cl xc xfT R).K := rfl
  have nd := sc_found.nd
  have tk := takesE (P := P) (w := w) (K := K) (mg := mg) (base := base) (N := N_found) (qual := "_law_found") (scope := defScope st_found) (f := f) (cd := cdv) (A := A) (outer := outer) (s := s) (H := H) (E := E)
  have ow := ownE (P := P) (w := w) (K := K) (mg := mg) (base := base) (N := N_found) (qual := "_law_found") (scope := defScope st_found) (f := f) (cd := cdv) (A := A) (outer := outer) (s := s) (H := H) (E := E)
  exact (zC (zSet 2 nd cN)
    (zC (zTry 3 hK nd ⟨rfl, by decide, .inl (hX.gl _ xn_TurnError).1⟩ (fun k => hX.exm k (by decide)) tk (fun W pn xe tk ow => (zC (zSet 2 nd (e_if (tCp (kEq hK hu) s_eq (toMixC (xV 0)) (toMixC cI)) (callC hK tk C_p_parse_exchange (hr.mono (by decide)) hgd (aC (xV 1) aN)) (callC hK tk C_p_parse_integer (hr.mono (by decide)) hgd (aC (xV 1) aN))))
    s_nil)) (fun a oe ex d pn B' hz hq hx => (zC (zSet 4 nd (e_and (k := true) hK (isXvy hX hK hz hq hx (hB _ h_isinstance) (hB _ h_ValueError) (xV 3)) (e_one (e_not hK (toMixC (isXty [3, 1, 4] hX (by decide) hK hz hq hx (hB _ h_isinstance) (xV 3) (pac_cons (clN hX xn_BadBatch) (pac_cons (clN hX xn_NoIndex) (pac_cons (clN hX xn_Rejected) pac_nil)))))))))
    (zC (zSet 2 nd (e_if (PW.pt (t_and (tTr hK (toMixC (xV 4))) (t_and1 (tTr hK (toMixC (isXny hX xn_BadText hK hz hq hx (hB _ h_isinstance) (xV 3))))))) (toClean (lsF (aC (xF hX xa_index hK hz hq hx (xV 3)) aN))) cS))
    s_nil))))
    (zC (s_ret (xV 2))
    s_nil)))
theorem ok_found {P : Program} {w : World} {K : PySem.W.Frag} {mg : Str → Option Value} {base : Heap} {cl xc : Nat → Addr} {R f : Addr} {fd : FuncData} (hB : Blt mg) (hC : Cst mg)  (C_p_parse_exchange : Cal (jsN K cl xc xfT R) P w mg base 3 "parse_exchange" 1 F_p_parse_exchange) (C_p_parse_integer : Cal (jsN K cl xc xfT R) P w mg base 3 "parse_integer" 1 F_p_parse_integer) (hX : XT K mg xc tT xn xnames xattrs) (F : L2.Fun K "_law_found" "_law_found" st_found f fd) (hm : mg "_law_found" = some (.ref f)) (hb : Binds K fd ["_law_way", "_law_value"] []) :
    Cal (jsN K cl xc xfT R) P w mg base 4 "_law_found" 2 F_found :=
  ⟨⟨f, fd, ["_law_way", "_law_value"], fnG_D F sc_found rfl (by decide) (fun cdv A outer s H E B hr hgd => b_found hB hC  C_p_parse_exchange C_p_parse_integer hX hr hgd), hm, F.kp, hb⟩, runF_len⟩


/-! ### the law -/


def f_law : Sv Nat := (sSeq (sSet 2 (eLst (aCons (eC (.str "0")) (aCons (eC (.str "-0")) (aCons (eC (.str "00")) (aCons (eC (.str "-1")) (aCons (eC (.str "+1")) (aCons (eOp mulT (eC (.str "1")) (eC (.int 20))) (aCons (eOp mulT (eC (.str "1")) (eC (.int 21))) (aCons (eOp addD (eC (.str "-")) (eOp mulT (eC (.str "9")) (eC (.int 20)))) (aCons (eOp addD (eC (.str "-")) (eOp mulT (eC (.str "1")) (eC (.int 21)))) (aCons (eOp mulT (eC (.str "1")) (eC (.int 2500))) aNil))))))))))))
    (sSeq (sSet 2 (eOp addD (eVar 2) (eLst (aCons (eC (.str "")) (aCons (eC (.str "-")) (aCons (eC (.str "1 ")) aNil))))))
    (sSeq (sFor (iRng1 (eC (.int 3))) (gNm 3) (sSeq (sSet 4 (eCall F_drawn (aCons (eVar 1) (aCons (eC (.int 6)) (aCons (eOp powD (eC (.int 10)) (eC (.int 12))) aNil)))))
    (sSeq (sSet 5 (eCall F_joined (aCons (eComp [12] (iSeq (eOp idxD (eVar 4) (eC (.int 1)))) (gNm 12) tYesD (eOp addD (eOp addD (eB strX (aCons (eVar 12) aNil)) (eC (.str ":"))) (eB strX (aCons (eOp idxD (eOp idxD (eVar 4) (eC (.int 0))) (eVar 12)) aNil)))) aNil)))
    (sSeq (sSet 6 (eLst (aCons (eVar 5) (aCons (eOp addD (eVar 5) (eC (.str " 5:1"))) (aCons (eC (.str "0:1 1:1 2:1 3:1 4:1 5:1 6:1")) (aCons (eC (.str "0:1 1:1 2:1 3:1 4:1 5:1 5:1")) (aCons (eC (.str "1:1")) aNil)))))))
    (sSeq (sSet 6 (eOp addL (eVar 6) (eLst (aCons (eC (.str "0:1")) (aCons (eC (.str "")) (aCons (eC (.str " ")) (aCons (eC (.str "0:999999999999 1:1")) (aCons (eC (.str "0:1000000000000 1:1")) (aCons (eC (.str "2:1 1:1")) (aCons (eC (.str "3:5 0:5 1:5 2:5")) aNil))))))))))
    (sSeq (sExt 6 (eVar 2))
    (sSeq (sSet 7 (eComp [11] (iSeq (eVar 6)) (gNm 11) (tBl (eOp ltD (eB lenB (aCons (eVar 11) aNil)) (eC (.int 200)))) (eVar 11)))
    (sSeq (sFor (iSeq (eOp addL (eVar 6) (eComp [13] (iRng1 (eC (.int 16))) (gNm 13) tYesD (eCall F_twisted (aCons (eVar 1) (aCons (eCall F_pick (aCons (eVar 1) (aCons (eVar 7) aNil))) aNil)))))) (gNm 8) (sSeq (sSet 9 (eCall F_integer_of (aCons (eVar 8) aNil)))
    (sSeq (sSet 10 (eLst (aCons (eCall F_exchange_of (aCons (eVar 8) aNil)) (aCons (eIf (tBl (eOp isND (eVar 9) (eC .non))) (eLst (aCons (eC (.int 0)) aNil)) (eVar 9)) aNil))))
    (sSeq (sIf (tBl (eOp neD (eB reprB (aCons (eComp [14] (iRng1 (eC (.int 2))) (gNm 14) tYesD (eCall F_found (aCons (eVar 14) (aCons (eVar 8) aNil)))) aNil)) (eB reprB (aCons (eVar 10) aNil)))) (sSeq (sRet (eC (.bl false)))
    sNil) sNil)
    sNil))))
    (sSeq (sFor (iSeq (eLst (aCons (eC .non) (aCons (eC (.int 5)) (aCons (eC (.bl true)) (aCons (eVar 4) (aCons (eLst (aCons (eC (.str "0:1")) aNil)) (aCons (eC (.dct [])) (aCons (eCall F_pick (aCons (eVar 1) (aCons (eLst (aCons (eTup aNil) (aCons (eLst aNil) (aCons (eC (.int 0)) (aCons (eTup (aCons (eC (.str "0:1")) aNil)) (aCons (eC (.dct [(.inr "0", .int 1)])) aNil)))))) aNil))) aNil))))))))) (gNm 8) (sSeq (sIf (tBl (eOp neD (eB reprB (aCons (eComp [14] (iRng1 (eC (.int 2))) (gNm 14) tYesD (eCall F_found (aCons (eVar 14) (aCons (eVar 8) aNil)))) aNil)) (eC (.str "[[None], [None]]")))) (sSeq (sRet (eC (.bl false)))
    sNil) sNil)
    sNil))
    sNil)))))))))
    (sSeq (sRet (eC (.bl true)))
    sNil))))
def M_law : Nat → Bool := fun i => Nat.beq i 6

abbrev N_law : List Str := ["_law_script", "_law_jar", "_law_numbers", "_law_turn", "_law_exchange", "_law_text", "_law_texts", "_law_short", "_law_value", "_law_number", "_law_due", "_law_some", "_law_block_here", "_law_k", "_law_way"]
abbrev st_law : Stmt := top 31
theorem sc_law : FnScope N_law ["_law_script"] (defScope st_law) := ⟨rfl, rfl, rfl, by decide +kernel, rfl, by decide +kernel, by decide +kernel⟩
theorem b_law {P : Program} {w : World} {K : PySem.W.Frag} {mg : Str → Option Value} {base : Heap} {cl xc : Nat → Addr} {R f : Addr} {cdv : Value} {A : Around} {outer : List Env} {s : Shared} {H : Hp} {E : XK} {B : Bs} (hB : Blt mg) (hC : Cst mg) (C_drawn : Cal (jsN K cl xc xfT R) P w mg base 3 "_law_drawn" 3 F_drawn) (C_exchange_of : Cal (jsN K cl xc xfT R) P w mg base 3 "_law_exchange_of" 1 F_exchange_of) (C_found : Cal (jsN K cl xc xfT R) P w mg base 4 "_law_found" 2 F_found) (C_integer_of : Cal (jsN K cl xc xfT R) P w mg base 1 "_law_integer_of" 1 F_integer_of) (C_joined : Cal (jsN K cl xc xfT R) P w mg base 1 "_law_joined" 1 F_joined) (C_pick : Cal (jsN K cl xc xfT R) P w mg base 2 "_law_pick" 2 F_pick) (C_twisted : Cal (jsN K cl xc xfT R) P w mg base 3 "_law_twisted" 2 F_twisted) 
    (hr : Room 4 (A.deeper (envOfC "law" (defScope st_law) s.heap.objs.size f cdv))) (hgd : (A.deeper (envOfC "law" (defScope st_law) s.heap.objs.size f cdv)).guards = some []) :
    PSs (cxF P w K mg base N_law "law" (defScope st_law) f cdv A outer s H E) (defBody st_law).tail (rdS (jsN K cl xc xfT R) B M_law W0 f_law) := by
  have hu := hr.units
  have hv := hv_of hr
  have hK : K = (jsN K cl xc xfT R).K := rfl
  have nd := sc_law.nd
  have tk := takesW0 (X := cxF P w K mg base N_law "law" (defScope st_law) f cdv A outer s H E)
  have ow : PassesOwn (model P w) (cxF P w K mg base N_law "law" (defScope st_law) f cdv A outer s H E).A (cxF P w K mg base N_law "law" (defScope st_law) f cdv A outer s H E).env (cxF P w K mg base N_law "law" (defScope st_law) f cdv A outer s H E).xe := PassesOwn.never
  exact (zC (zSet 2 nd (toClean (lsF (aC cS (aC cS (aC cS (aC cS (aC cS (aC (bMulT (toMixC cS) (toMixC cI)) (aC (bMulT (toMixC cS) (toMixC cI)) (aC (bAddC hK cS (bMulT (toMixC cS) (toMixC cI))) (aC (bAddC hK cS (bMulT (toMixC cS) (toMixC cI))) (aC (bMulT (toMixC cS) (toMixC cI)) aN)))))))))))))
    (zC (zSet 2 nd (bAddC hK (xV 2) (toClean (lsF (aC cS (aC cS (aC cS aN)))))))
    (zC (zFor (iR1 (hB _ h_range) (toMixC cI)) (gN 3 nd) (zC (zSet 4 nd (callC hK tk C_drawn (hr.mono (by decide)) hgd (aC (xV 1) (aC cI (aC (bPow (toMixC cI) (toMixC cI)) aN)))))
    (zC (zSet 5 nd (callC hK tk C_joined (hr.mono (by decide)) hgd (aC (toClean (lcF [("_law_block_here", 12)] nd (blk_of N_law (defScope st_law) rfl rfl (by decide +kernel)) (iSq hK (ixC hK (xV 4) cI)) (fun _ _ _ _ _ => (gN 12 nd)) (fun _ _ _ _ _ => ts0) (fun _ _ _ _ _ => (bAddC hK (bAddC hK (kStr hK hgd hu (hB _ h_str) (aX (toMixC (xV 12)) aN)) cS) (kStr hK hgd hu (hB _ h_str) (aX (toMixC (ixC hK (ixC hK (xV 4) cI) (xV 12))) aN)))))) aN)))
    (zC (zSetO 6 nd (lsF (aC (xV 5) (aC (bAddC hK (xV 5) cS) (aC cS (aC cS (aC cS aN)))))))
    (zC (zSetO 6 nd (adO (i := 6) (toClean (lsF (aC cS (aC cS (aC cS (aC cS (aC cS (aC cS (aC cS aN)))))))))))
    (zC (zExt 6 (xV 2))
    (zC (zSet 7 nd (toClean (lcF [("_law_some", 11)] nd (blk_of N_law (defScope st_law) rfl rfl (by decide +kernel)) (iOw 6 hK) (fun _ _ _ _ _ => (gN 11 nd)) (fun _ _ _ _ _ => (ts1 (tCp (op_lt) s_cmp (toMixC (kLen hK (hB _ h_len) (aX (toMixC (xV 11)) aN))) (toMixC cI)))) (fun _ _ _ _ _ => (xV 11)))))
    (zC (zFor (iSq hK (toClean (adO (i := 6) (toClean (lcF [("_law_k", 13)] nd (blk_of N_law (defScope st_law) rfl rfl (by decide +kernel)) (iR1 (hB _ h_range) (toMixC cI)) (fun _ _ _ _ _ => (gN 13 nd)) (fun _ _ _ _ _ => ts0) (fun _ _ _ _ _ => (callC hK takesW0 C_twisted (hr.mono (by decide)) hgd (aC (xV 1) (aC (callC hK takesW0 C_pick (hr.mono (by decide)) hgd (aC (xV 1) (aC (xV 7) aN))) aN))))))))) (gN 8 nd) (zC (zSet 9 nd (callC hK tk C_integer_of (hr.mono (by decide)) hgd (aC (xV 8) aN)))
    (zC (zSet 10 nd (toClean (lsF (aC (callC hK tk C_exchange_of (hr.mono (by decide)) hgd (aC (xV 8) aN)) (aC (e_if (tCp (op_isN) s_isN (toMixC (xV 9)) (toMixC cN)) (toClean (lsF (aC cI aN))) (xV 9)) aN)))))
    (zC (s_if (tCp (kNe hK hu) s_ne (toMixC (kRepr hK hgd hu (hB _ h_repr) (aX (toMixF (lcF [("_law_way", 14)] nd (blk_of N_law (defScope st_law) rfl rfl (by decide +kernel)) (iR1 (hB _ h_range) (toMixC cI)) (fun _ _ _ _ _ => (gN 14 nd)) (fun _ _ _ _ _ => ts0) (fun _ _ _ _ _ => (callC hK takesW0 C_found (hr.mono (by decide)) hgd (aC (xV 14) (aC (xV 8) aN)))))) aN))) (toMixC (kRepr hK hgd hu (hB _ h_repr) (aX (toMixC (xV 10)) aN)))) (zC (s_ret cB)
    s_nil) s_nil)
    s_nil))) (hp := ow))
    (zC (zFor (iSq hK (toClean (lsF (aC cN (aC cI (aC cB (aC (xV 4) (aC (toClean (lsF (aC cS aN))) (aC (toClean dct0) (aC (callC hK tk C_pick (hr.mono (by decide)) hgd (aC (xV 1) (aC (toClean (lsF (aC (tpC aN) (aC (toClean (lsF aN)) (aC cI (aC (tpC (aC cS aN)) (aC (toClean dct1) aN))))))) aN))) aN)))))))))) (gN 8 nd) (zC (s_if (tCp (kNe hK hu) s_ne (toMixC (kRepr hK hgd hu (hB _ h_repr) (aX (toMixF (lcF [("_law_way", 14)] nd (blk_of N_law (defScope st_law) rfl rfl (by decide +kernel)) (iR1 (hB _ h_range) (toMixC cI)) (fun _ _ _ _ _ => (gN 14 nd)) (fun _ _ _ _ _ => ts0) (fun _ _ _ _ _ => (callC hK takesW0 C_found (hr.mono (by decide)) hgd (aC (xV 14) (aC (xV 8) aN)))))) aN))) (toMixC cS)) (zC (s_ret cB)
    s_nil) s_nil)
    s_nil) (hp := ow))
    s_nil)))))))) (hp := ow))
    (zC (s_ret cB)
    s_nil))))
end Lw
namespace Lw
open PySem L2 Mp

/-! ### rows of blocks: plain mathematics -/
/-- an item, 0 beyond the end -/
def gt (A : List Nat) (i : Nat) : Nat := A.getD i 0
theorem gt_eq {A : List Nat} {i : Nat} (h : i < A.length) : gt A i = A[i] := by unfold gt; rw [List.getD_eq_getElem?_getD, List.getElem?_eq_getElem h]; rfl
theorem gt_none {A : List Nat} {i : Nat} (h : A.length ≤ i) : gt A i = 0 := by unfold gt; rw [List.getD_eq_getElem?_getD, List.getElem?_eq_none h]; rfl
theorem gt_opt {A : List Nat} {i : Nat} (h : i < A.length) : A[i]? = some (gt A i) := by rw [gt_eq h, List.getElem?_eq_getElem h]
/-- where block i begins -/
def pre (A : List Nat) (i : Nat) : Nat := (A.take i).sum
/-- the block of a place -/
def blk : List Nat → Nat → Nat
  | [], _ => 0
  | a :: r, p => if p < a then 0 else blk r (p - a) + 1
/-- blocks and an order of them -/
structure IsX (L O : List Nat) : Prop where
  len : L.length = O.length
  ne : 0 < O.length
  perm : O.Perm (List.range O.length)
  pos : ∀ x ∈ L, 0 < x
section
variable {L O : List Nat}
theorem IsX.lt (h : IsX L O) {b : Nat} (hb : b ∈ O) : b < O.length := List.mem_range.mp (h.perm.mem_iff.mp hb)
theorem IsX.mem (h : IsX L O) {b : Nat} (hb : b < O.length) : b ∈ O := h.perm.mem_iff.mpr (List.mem_range.mpr hb)
/-- the lengths in the order after a step -/
def loA (L O : List Nat) : List Nat := O.map fun b => gt L b
theorem map_getD_range : ∀ (L : List Nat), (List.range L.length).map (fun b => gt L b) = L := fun L => by
  apply List.ext_getElem
  · simp
  · intro i h1 h2; simp at h1 ⊢
    exact gt_eq h2
theorem IsX.sum (h : IsX L O) : (loA L O).sum = L.sum := by
  unfold loA
  have := (h.perm.map fun b => gt L b).sum_nat
  rw [this, ← h.len, map_getD_range]
/-- where the block b begins after a step -/
def aft (L O : List Nat) (b : Nat) : Nat := pre (loA L O) (O.idxOf b)
/-- a step -/
def T (L O : List Nat) (p : Nat) : Nat := aft L O (blk L p) + (p - pre L (blk L p))
/-! the exchange back -/
def invO (O : List Nat) : List Nat := (List.range O.length).map fun b => O.idxOf b
/-- the shift of a block -/
def sft (L O : List Nat) (b : Nat) : Int := (aft L O b : Int) - (pre L b : Int)
end
/-! ### data of ints -/
def dN (O : List Nat) : List D := O.map fun n => .int ((n : Nat) : Int)
def dI (xs : List Int) : List D := xs.map D.int
abbrev tN (O : List Nat) : D := .tup (dN O)
abbrev lN (O : List Nat) : D := .lst (dN O)
abbrev tZ (O : List Int) : D := .tup (dI O)
abbrev lZ (O : List Int) : D := .lst (dI O)
abbrev exD (L O : List Nat) : D := .tup [tN L, tN O]
def zN (O : List Nat) : List Int := O.map fun n => ((n : Nat) : Int)
theorem dN_z (O : List Nat) : dN O = dI (zN O) := by unfold dN dI zN; rw [List.map_map]; rfl
theorem zN_inj : ∀ {A B : List Nat}, zN A = zN B → A = B
  | [], [], _ => rfl
  | a :: A, b :: B, h => by
    have h1 := List.cons.inj (show (a : Int) :: zN A = (b : Int) :: zN B from h)
    rw [zN_inj h1.2]
    have : a = b := by exact_mod_cast h1.1
    rw [this]
  | [], _ :: _, h => by cases h
  | _ :: _, [], h => by cases h
@[simp] theorem dN_len {O : List Nat} : (dN O).length = O.length := by unfold dN; simp
@[simp] theorem dI_len {O : List Int} : (dI O).length = O.length := by unfold dI; simp
@[simp] theorem dN_nil : dN [] = [] := rfl
@[simp] theorem dI_nil : dI [] = [] := rfl
@[simp] theorem zN_len {O : List Nat} : (zN O).length = O.length := by unfold zN; simp
theorem dN_snoc {O : List Nat} {n : Nat} : dN O ++ [.int (n : Int)] = dN (O ++ [n]) := by unfold dN; simp
theorem dN_get {O : List Nat} {i : Nat} (h : i < O.length) : (dN O)[i]? = some (.int (gt O i : Nat)) := by unfold dN; simp [gt_opt h]
/-- an item of a list of ints -/
def gz (A : List Int) (i : Nat) : Int := A.getD i 0
theorem er_map {α β : Type} {f : α → β} : ∀ {xs : List α} {i : Nat}, (xs.map f).eraseIdx i = (xs.eraseIdx i).map f
  | [], _ => rfl
  | x :: r, 0 => rfl
  | x :: r, i + 1 => by
    show f x :: (r.map f).eraseIdx i = f x :: (r.eraseIdx i).map f
    rw [er_map]
theorem dN_erase {O : List Nat} {i : Nat} : (dN O).eraseIdx i = dN (O.eraseIdx i) := by unfold dN; rw [er_map]
theorem dN_rev {O : List Nat} : (dN O).reverse = dN O.reverse := by unfold dN; rw [List.map_reverse]
theorem rng_N {k : Nat} : rngD 0 k = dN (List.range k) := by rw [nrng]; rfl
theorem sum_z : ∀ (L : List Nat), (zN L).sum = ((L.sum : Nat) : Int)
  | [] => rfl
  | a :: r => by
    have := sum_z r
    show (a : Int) + (zN r).sum = _
    rw [this, List.sum_cons]; omega
theorem sum_tI {xs : List Int} : sumB [tZ xs] = some (.int xs.sum) := by
  show (match ints? (dI xs) with | some ns => some (D.int ns.sum) | none => none) = _
  unfold dI
  rw [ints?_map]
theorem sum_lI {xs : List Int} : sumB [lZ xs] = some (.int xs.sum) := by
  show (match ints? (dI xs) with | some ns => some (D.int ns.sum) | none => none) = _
  unfold dI
  rw [ints?_map]
@[simp] theorem sum_tN {L : List Nat} : sumB [tN L] = some (.int (L.sum : Nat)) := by
  show sumB [.tup (dN L)] = _
  rw [dN_z]; exact sum_tI.trans (by rw [sum_z])
@[simp] theorem sum_lN {L : List Nat} : sumB [lN L] = some (.int (L.sum : Nat)) := by
  show sumB [.lst (dN L)] = _
  rw [dN_z]; exact sum_lI.trans (by rw [sum_z])
theorem ix_t {O : List Nat} {i : Nat} (h : i < O.length) : idxD (tN O) (.int ((i : Nat) : Int)) = some (.int (gt O i : Nat)) := idx_t (dN_get h)
@[simp] theorem ix_0 {a b : D} : idxD (.tup [a, b]) (.int 0) = some a := rfl
@[simp] theorem ix_1 {a b : D} : idxD (.tup [a, b]) (.int 1) = some b := rfl
theorem LN : LINE = 1000000 := rfl
theorem LM : LIM = 2305843009213693952 := rfl
/-- where the blocks begin -/
def begs (L : List Nat) : List Nat := (List.range L.length).map (pre L)
/-- the shifts of the blocks -/
def sfts (L O : List Nat) : List Int := (List.range O.length).map (sft L O)
/-! ### slices, ==, in, sorted, repr -/
@[simp] theorem tru_bl {b : Bool} : truD (.bl b) = some b := rfl
@[simp] theorem cut_take {xs : List D} {k : Nat} : cutD xs none (some ((k : Nat) : Int)) = xs.take k := by
  unfold cutD
  have e1 : HT.sIx xs.length 0 none = 0 := rfl
  rw [e1, HT.sIx_nat, List.drop_zero, Nat.sub_zero]
  by_cases h : k ≤ xs.length
  · rw [Nat.min_eq_left h]
  · rw [Nat.min_eq_right (by omega), List.take_length, List.take_of_length_le (by omega)]
@[simp] theorem cut_drop {xs : List D} {k : Nat} : cutD xs (some ((k : Nat) : Int)) none = xs.drop k := by
  unfold cutD
  have e1 : HT.sIx xs.length xs.length none = xs.length := rfl
  rw [e1, HT.sIx_nat]
  by_cases h : k ≤ xs.length
  · rw [Nat.min_eq_left h, List.take_of_length_le (by simp)]
  · rw [Nat.min_eq_right (by omega), List.drop_length, List.drop_eq_nil_of_le (by omega)]; simp
@[simp] theorem cut_drop1 {xs : List D} : cutD xs (some 1) none = xs.drop 1 := cut_drop (k := 1)
@[simp] theorem cut_take1 {xs : List D} : cutD xs none (some 1) = xs.take 1 := cut_take (k := 1)
@[simp] theorem slice_t {xs : List D} {a b : Option Int} : sliceD (.tup xs) a b = some (.tup (cutD xs a b)) := rfl
@[simp] theorem slice_l {xs : List D} {a b : Option Int} : sliceD (.lst xs) a b = some (.lst (cutD xs a b)) := rfl
@[simp] theorem slice_L {xs : List D} {a b : Option Int} : sliceL (.lst xs) a b = some (.lst (cutD xs a b)) := rfl
theorem add_l {xs ys : List D} (h : xs.length + ys.length ≤ 1000000) : addD (.lst xs) (.lst ys) = some (.lst (xs ++ ys)) := if_pos h
mutual
/-- data of None, ints, strings -/
def pln : D → Bool
  | .non => true
  | .int _ => true
  | .tup xs => plnL xs
  | .lst xs => plnL xs
  | _ => false
def plnL : List D → Bool
  | [] => true
  | x :: xs => pln x && plnL xs
end
mutual
theorem py_pln : ∀ (d : D), pln d = true → ∃ p, py d = some p ∧ p.canLay0 = true ∧ p.depth = dpD d
  | .non, _ => ⟨_, rfl, rfl, rfl⟩
  | .int i, _ => ⟨_, rfl, rfl, rfl⟩
  | .tup xs, h => by
    obtain ⟨ps, h1, h2, h3⟩ := py_plnL xs h
    exact ⟨.tuple ps, by unfold py; rw [h1], h2, by show PyData.depthAll ps + 1 = _; rw [h3]; rfl⟩
  | .lst xs, h => by
    obtain ⟨ps, h1, h2, h3⟩ := py_plnL xs h
    exact ⟨.list ps, by unfold py; rw [h1], h2, by show PyData.depthAll ps + 1 = _; rw [h3]; rfl⟩
  | .bl _, h => by cases h
  | .str _, h => by cases h
  | .dct _, h => by cases h
  | .jar, h => by cases h
  | .obj _, h => by cases h
  | .ins _ _, h => by cases h
theorem py_plnL : ∀ (ds : List D), plnL ds = true → ∃ ps, pyL ds = some ps ∧ PyData.canLayAll0 ps = true ∧ PyData.depthAll ps = dpL ds
  | [], _ => ⟨[], rfl, rfl, rfl⟩
  | d :: ds, h => by
    unfold plnL at h
    rw [Bool.and_eq_true] at h
    obtain ⟨p, a1, a2, a3⟩ := py_pln d h.1
    obtain ⟨ps, h1, h2, h3⟩ := py_plnL ds h.2
    exact ⟨p :: ps, by unfold pyL; rw [a1, h1], by unfold PyData.canLayAll0; rw [a2, h2]; rfl, by unfold PyData.depthAll dpL; rw [a3, h3]⟩
end
mutual
theorem eqv_pln : ∀ (d e : D) {p q : PyData}, pln d = true → pln e = true → py d = some p → py e = some q → (PyData.eqv p q = true ↔ d = e)
  | .non, .non, p, q, _, _, h1, h2 => by cases h1; cases h2; simp [PyData.eqv]
  | .non, .int _, p, q, _, _, h1, h2 => by cases h1; cases h2; simp [PyData.eqv]
  | .int _, .non, p, q, _, _, h1, h2 => by cases h1; cases h2; simp [PyData.eqv]
  | .int a, .int b, p, q, _, _, h1, h2 => by cases h1; cases h2; simp [PyData.eqv]
  | .non, .tup xs, p, q, _, h, h1, h2 => by obtain ⟨ps, e, _⟩ := py_plnL xs h; cases h1; unfold py at h2; rw [e] at h2; cases h2; simp [PyData.eqv]
  | .non, .lst xs, p, q, _, h, h1, h2 => by obtain ⟨ps, e, _⟩ := py_plnL xs h; cases h1; unfold py at h2; rw [e] at h2; cases h2; simp [PyData.eqv]
  | .int _, .tup xs, p, q, _, h, h1, h2 => by obtain ⟨ps, e, _⟩ := py_plnL xs h; cases h1; unfold py at h2; rw [e] at h2; cases h2; simp [PyData.eqv]
  | .int _, .lst xs, p, q, _, h, h1, h2 => by obtain ⟨ps, e, _⟩ := py_plnL xs h; cases h1; unfold py at h2; rw [e] at h2; cases h2; simp [PyData.eqv]
  | .tup xs, .non, p, q, h, _, h1, h2 => by obtain ⟨ps, e, _⟩ := py_plnL xs h; cases h2; unfold py at h1; rw [e] at h1; cases h1; simp [PyData.eqv]
  | .lst xs, .non, p, q, h, _, h1, h2 => by obtain ⟨ps, e, _⟩ := py_plnL xs h; cases h2; unfold py at h1; rw [e] at h1; cases h1; simp [PyData.eqv]
  | .tup xs, .int _, p, q, h, _, h1, h2 => by obtain ⟨ps, e, _⟩ := py_plnL xs h; cases h2; unfold py at h1; rw [e] at h1; cases h1; simp [PyData.eqv]
  | .lst xs, .int _, p, q, h, _, h1, h2 => by obtain ⟨ps, e, _⟩ := py_plnL xs h; cases h2; unfold py at h1; rw [e] at h1; cases h1; simp [PyData.eqv]
  | .tup xs, .lst ys, p, q, h, g, h1, h2 => by obtain ⟨ps, e, _⟩ := py_plnL xs h; obtain ⟨qs, e', _⟩ := py_plnL ys g; unfold py at h1 h2; rw [e] at h1; rw [e'] at h2; cases h1; cases h2; simp [PyData.eqv]
  | .lst xs, .tup ys, p, q, h, g, h1, h2 => by obtain ⟨ps, e, _⟩ := py_plnL xs h; obtain ⟨qs, e', _⟩ := py_plnL ys g; unfold py at h1 h2; rw [e] at h1; rw [e'] at h2; cases h1; cases h2; simp [PyData.eqv]
  | .tup xs, .tup ys, p, q, h, g, h1, h2 => by
    obtain ⟨ps, e, _⟩ := py_plnL xs h; obtain ⟨qs, e', _⟩ := py_plnL ys g; unfold py at h1 h2; rw [e] at h1; rw [e'] at h2; cases h1; cases h2
    show PyData.eqvAll ps qs = true ↔ _
    rw [eqv_plnL xs ys h g e e']
    exact ⟨fun z => by rw [z], fun z => D.tup.inj z⟩
  | .lst xs, .lst ys, p, q, h, g, h1, h2 => by
    obtain ⟨ps, e, _⟩ := py_plnL xs h; obtain ⟨qs, e', _⟩ := py_plnL ys g; unfold py at h1 h2; rw [e] at h1; rw [e'] at h2; cases h1; cases h2
    show PyData.eqvAll ps qs = true ↔ _
    rw [eqv_plnL xs ys h g e e']
    exact ⟨fun z => by rw [z], fun z => D.lst.inj z⟩
theorem eqv_plnL : ∀ (ds es : List D) {ps qs : List PyData}, plnL ds = true → plnL es = true → pyL ds = some ps → pyL es = some qs → (PyData.eqvAll ps qs = true ↔ ds = es)
  | [], [], ps, qs, _, _, h1, h2 => by cases h1; cases h2; simp [PyData.eqvAll]
  | [], e :: es, ps, qs, _, h, h1, h2 => by
    obtain ⟨qs, e, _⟩ := py_plnL (e :: es) h
    cases h1
    rw [e] at h2; cases h2
    cases qs with
    | nil => unfold pyL at e; split at e <;> cases e
    | cons _ _ => simp [PyData.eqvAll]
  | d :: ds, [], ps, qs, h, _, h1, h2 => by
    obtain ⟨ps, e, _⟩ := py_plnL (d :: ds) h
    cases h2
    rw [e] at h1; cases h1
    cases ps with
    | nil => unfold pyL at e; split at e <;> cases e
    | cons _ _ => simp [PyData.eqvAll]
  | d :: ds, e :: es, ps, qs, h, g, h1, h2 => by
    unfold plnL at h g
    rw [Bool.and_eq_true] at h g
    obtain ⟨p, a1, _⟩ := py_pln d h.1
    obtain ⟨q, b1, _⟩ := py_pln e g.1
    obtain ⟨ps', a2, _⟩ := py_plnL ds h.2
    obtain ⟨qs', b2, _⟩ := py_plnL es g.2
    unfold pyL at h1 h2
    rw [a1, a2] at h1
    rw [b1, b2] at h2
    cases h1; cases h2
    show (PyData.eqv p q && PyData.eqvAll ps' qs') = true ↔ _
    rw [Bool.and_eq_true, eqv_pln d e h.1 g.1 a1 b1, eqv_plnL ds es h.2 g.2 a2 b2]
    exact ⟨fun z => by rw [z.1, z.2], fun z => List.cons.inj z⟩
end
theorem eqP_pln {d e : D} (h1 : pln d = true) (h2 : pln e = true) (d1 : dpD d ≤ 64) (d2 : dpD e ≤ 64) : eqP d e = some (@decide (d = e) (Classical.propDecidable _)) := by
  obtain ⟨p, a1, a2, a3⟩ := py_pln d h1
  obtain ⟨q, b1, b2, b3⟩ := py_pln e h2
  unfold eqP
  rw [a1, b1]
  have s1 : SeqAt.shaped p = true := by unfold SeqAt.shaped; rw [a2, a3]; simpa using d1
  have s2 : SeqAt.shaped q = true := by unfold SeqAt.shaped; rw [b2, b3]; simpa using d2
  simp only [s1, s2, Bool.and_self, if_true]
  congr 1
  rw [Bool.eq_iff_iff, eqv_pln d e h1 h2 a1 b1]
  simp
theorem neD_l {xs ys : List D} (h1 : plnL xs = true) (h2 : plnL ys = true) (d1 : dpL xs ≤ 63) (d2 : dpL ys ≤ 63) : neD (.lst xs) (.lst ys) = some (.bl (!@decide (xs = ys) (Classical.propDecidable _))) := by
  have h : eqB (.lst xs) (.lst ys) = _ := eqP_pln (d := .lst xs) (e := .lst ys) h1 h2 (by show dpL xs + 1 ≤ 64; omega) (by show dpL ys + 1 ≤ 64; omega)
  unfold neD; rw [h]
  simp
@[simp] theorem pln_N : ∀ {O : List Nat}, plnL (dN O) = true
  | [] => rfl
  | a :: r => by show (pln (.int a) && plnL (dN r)) = true; rw [pln_N]; rfl
@[simp] theorem pln_I : ∀ {O : List Int}, plnL (dI O) = true
  | [] => rfl
  | a :: r => by show (pln (.int a) && plnL (dI r)) = true; rw [pln_I]; rfl
@[simp] theorem dp_N : ∀ {O : List Nat}, dpL (dN O) = 0
  | [] => rfl
  | a :: r => by show max (dpD (.int a)) (dpL (dN r)) = 0; rw [dp_N]; rfl
@[simp] theorem dp_I : ∀ {O : List Int}, dpL (dI O) = 0
  | [] => rfl
  | a :: r => by show max (dpD (.int a)) (dpL (dI r)) = 0; rw [dp_I]; rfl
theorem dI_inj {A B : List Int} (h : dI A = dI B) : A = B := (List.map_inj_right (f := D.int) (fun x y z => D.int.inj z)).mp h
theorem dN_inj {A B : List Nat} (h : dN A = dN B) : A = B := zN_inj (dI_inj (by rw [← dN_z, ← dN_z]; exact h))
@[simp] theorem dN_iff {A B : List Nat} : dN A = dN B ↔ A = B := ⟨dN_inj, fun h => by rw [h]⟩
@[simp] theorem dI_iff {A B : List Int} : dI A = dI B ↔ A = B := ⟨dI_inj, fun h => by rw [h]⟩
theorem ne_lN {A B : List Nat} : neD (lN A) (lN B) = some (.bl (!decide (A = B))) := by
  rw [neD_l (by simp) (by simp) (by simp) (by simp)]
  simp
/-! in -/
theorem any_ints {xs : List Int} {i : Int} : ((xs.map PyData.int).any fun z => PyData.eqv z (.int i)) = decide (i ∈ xs) := by
  rw [Bool.eq_iff_iff]
  simp [PyData.eqv]
theorem inB_l {xs : List Int} {i : Int} : inB (.int i) (lZ xs) = some (decide (i ∈ xs)) := by
  have e : py (.lst (dI xs)) = some (.list (xs.map PyData.int)) := by unfold py dI; rw [pyInts]
  have s : SeqAt.shaped (.list (xs.map PyData.int)) = true := shaped_ints xs
  show (match py (.int i), py (.lst (dI xs)) with | some p, some (.list ds) => _ | some p, some (.tuple ds) => _ | _, _ => _) = _
  rw [e]
  show (if (SeqAt.shaped (.int i) && SeqAt.shaped (.list (xs.map PyData.int))) = true then some ((xs.map PyData.int).any fun z => PyData.eqv z (.int i)) else none) = _
  rw [s, any_ints]
  rfl
theorem mem_z {O : List Nat} {i : Int} : i ∈ zN O ↔ ∃ n ∈ O, i = (n : Nat) := by
  unfold zN; simp only [List.mem_map]
  exact ⟨fun ⟨n, h, e⟩ => ⟨n, h, e.symm⟩, fun ⟨n, h, e⟩ => ⟨n, h, e.symm⟩⟩
theorem mem_zn {O : List Nat} {n : Nat} : ((n : Nat) : Int) ∈ zN O ↔ n ∈ O := by
  rw [mem_z]
  exact ⟨fun ⟨k, h, e⟩ => by have : n = k := by omega
                             rw [this]; exact h, fun h => ⟨n, h, rfl⟩⟩
theorem in_lN {O : List Nat} {n : Nat} : inD (.int (n : Nat)) (lN O) = some (.bl (decide (n ∈ O))) := by
  unfold inD
  show (match inB (.int (n : Nat)) (.lst (dN O)) with | some b => some (D.bl b) | none => none) = _
  rw [dN_z, inB_l]
  simp [mem_zn]
/-! sorted -/
theorem sort_l {xs : List Int} : sortD [lZ xs] = some (lZ (isort xs)) := by
  show (match ints? (dI xs) with | some ns => some (D.lst ((isort ns).map D.int)) | none => none) = _
  unfold dI
  rw [ints?_map]
  rfl
theorem sort_t {xs : List Int} : sortD [tZ xs] = some (lZ (isort xs)) := by
  show (match ints? (dI xs) with | some ns => some (D.lst ((isort ns).map D.int)) | none => none) = _
  unfold dI
  rw [ints?_map]
  rfl
/-! repr -/
/-! ### kept blocks, standard forms -/
/-- b + 1 comes right after b -/
def kp (O : List Nat) (b : Nat) : Bool := decide (O.idxOf (b + 1) = O.idxOf b + 1)
def kpt (O : List Nat) : List Nat := (List.range (O.length - 1)).filter (kp O)
/-- b begins a block of the standard form -/
def hd0 (O : List Nat) (b : Nat) : Bool := b == 0 || !kp O (b - 1)
def hds (O : List Nat) : List Nat := (List.range O.length).filter (hd0 O)
def hde (O : List Nat) : List Nat := (hds O).drop 1 ++ [O.length]
def stL (L O : List Nat) : List Nat := (List.range (hds O).length).map fun i => pre L (gt (hde O) i) - pre L (gt (hds O) i)
def stO (O : List Nat) : List Nat := (O.filter fun b => decide (b ∈ hds O)).map (hds O).idxOf
section
variable {L O : List Nat}
/-- a block cut in two -/
def cutO (b : Nat) (x : Nat) : List Nat := if x = b then [b, b + 1] else [if b < x then x + 1 else x]
def splO (O : List Nat) (b : Nat) : List Nat := O.flatMap (cutO b)
def splL (L : List Nat) (b f : Nat) : List Nat := L.take b ++ [f, gt L b - f] ++ L.drop (b + 1)
theorem spl_rng {b : Nat} : ∀ n, (List.range n).flatMap (cutO b) = if n ≤ b then List.range n else List.range (n + 1)
  | 0 => by simp
  | n + 1 => by
    rw [List.range_succ, List.flatMap_append, spl_rng n]
    by_cases c : n + 1 ≤ b
    · rw [if_pos (by omega), if_pos c]
      unfold cutO
      simp
      rw [if_neg (by omega), if_neg (by omega)]
    · rw [if_neg c]
      by_cases c2 : n ≤ b
      · rw [if_pos c2]
        have : n = b := by omega
        subst this
        rw [List.range_succ, List.range_succ]
        unfold cutO
        simp
      · rw [if_neg c2, List.range_succ (n := n + 1)]
        unfold cutO
        simp
        rw [if_neg (by omega), if_pos (by omega)]
theorem splL_len {b f : Nat} (hb : b < L.length) : (splL L b f).length = L.length + 1 := by
  unfold splL; simp; omega
theorem IsX.split (h : IsX L O) {b f : Nat} (hb : b < O.length) (h1 : 0 < f) (h2 : f < gt L b) : IsX (splL L b f) (splO O b) ∧ (splO O b).length = O.length + 1 := by
  have hp : (splO O b).Perm (List.range (O.length + 1)) := by
    have := List.Perm.flatMap_right (cutO b) h.perm
    rw [spl_rng, if_neg (by omega)] at this
    exact this
  have hl : (splO O b).length = O.length + 1 := by rw [hp.length_eq, List.length_range]
  refine ⟨⟨by rw [splL_len (by rw [h.len]; exact hb), hl, h.len], by omega, by rw [hl]; exact hp, fun x hx => ?_⟩, hl⟩
  unfold splL at hx
  simp at hx
  rcases hx with hx | rfl | rfl | hx
  · exact h.pos x (List.mem_of_mem_take hx)
  · exact h1
  · omega
  · exact h.pos x (List.mem_of_mem_drop hx)
end

/-! ### sugar -/
section
variable {J : Type} {φ : D → D → Option D} {fo fe : Ev J} {m : Sd} {j : J} {P : D → J → Prop} {E : XP J} {ds : List D}
@[simp ↓] theorem a_ms : eMs φ fo fe m j P E = fo m j (fun x j1 => (∃ a, x = .str a) ∧ fe m j1 (fun y j2 => ∃ z, φ x y = some z ∧ P z j2) E) E := rfl
@[simp ↓] theorem a_js {fs : List (Ev J)} : eJs fs m j P E = jsC fs Str.empty m j (fun x j1 => P (.str x) j1) E := rfl
end
/-! ### texts of numbers -/
def mS (i : Int) : Str := Str.ofString (toString i)
theorem tl_pos (n : Nat) : TL.tl (mS (n : Nat)) = TL.numL n := TL.tl_num n
/-! what a word of a number says -/
def isDg (c : Nat) : Bool := decide (c ∈ TL.tl (Str.ofString "0123456789"))
theorem dg_iff {c : Nat} : isDg c = true ↔ 48 ≤ c ∧ c ≤ 57 := by
  have e : TL.tl (Str.ofString "0123456789") = [48, 49, 50, 51, 52, 53, 54, 55, 56, 57] := by decide
  unfold isDg
  rw [e, decide_eq_true_eq]
  simp
  omega
theorem dg_all {x : List Nat} : x.all isDg = true ↔ NumText.AllDigits x := by
  rw [List.all_eq_true]
  exact ⟨fun h c hc => dg_iff.mp (h c hc), fun h c hc => dg_iff.mpr (h c hc)⟩
def dgs (x : List Nat) : List Nat := if x.take 1 = [45] then x.drop 1 else x
def okW (x : List Nat) : Bool := decide (1 ≤ (dgs x).length) && decide ((dgs x).length ≤ 20) && (dgs x).all isDg && !(decide ((dgs x).take 1 = [48]) && !decide (x = [48]))
def vaW (x : List Nat) : Int := if x.take 1 = [45] then -((NumText.digitsVal (dgs x) : Nat) : Int) else ((NumText.digitsVal (dgs x) : Nat) : Int)
def rdL (x : List Nat) : Option Int := if okW x = true then some (vaW x) else none
def rdI (x : Str) : Option Int := rdL (TL.tl x)
def oI : Option Int → D | none => .non | some i => .int i
theorem dgs_len (x : List Nat) : (dgs x).length ≤ x.length ∧ x.length ≤ (dgs x).length + 1 := by
  unfold dgs
  split
  · rw [List.length_drop]; omega
  · exact ⟨Nat.le_refl _, by omega⟩
theorem int_ok {x : Str} (h : okW (TL.tl x) = true) : intText? x = some (vaW (TL.tl x)) ∧ x.length ≤ 21 := by
  have hd := dgs_len (TL.tl x)
  unfold okW at h
  rw [Bool.and_eq_true, Bool.and_eq_true, Bool.and_eq_true, decide_eq_true_eq, decide_eq_true_eq, dg_all] at h
  obtain ⟨⟨⟨h1, h2⟩, h3⟩, h4⟩ := h
  have hl : x.length ≤ 21 := by rw [TL.len_tl]; omega
  refine ⟨?_, hl⟩
  unfold vaW
  by_cases c : (TL.tl x).take 1 = [45]
  · rw [if_pos c]
    have e : dgs (TL.tl x) = (TL.tl x).drop 1 := by unfold dgs; rw [if_pos c]
    have e2 : TL.tl x = 45 :: dgs (TL.tl x) := by
      rw [e]
      calc TL.tl x = (TL.tl x).take 1 ++ (TL.tl x).drop 1 := (List.take_append_drop ..).symm
        _ = _ := by rw [c]; rfl
    exact intText_neg (x := x) (cs := dgs (TL.tl x)) e2 h3 (List.length_pos_iff.mp (by omega)) (by omega)
  · rw [if_neg c]
    have e : dgs (TL.tl x) = TL.tl x := by unfold dgs; rw [if_neg c]
    rw [e] at h1 h3 ⊢
    exact intText_digits (x := x) h3 (List.length_pos_iff.mp (show 0 < (TL.tl x).length by omega)) (by omega)
/-! slices of a text -/
theorem cut_01 (x : Str) : TL.tl (cutS x none (some 1)) = (TL.tl x).take 1 := by
  show ((x.cps.toList.drop (HT.sIx x.length 0 none)).take (HT.sIx x.length x.length (some ((1 : Nat) : Int)) - HT.sIx x.length 0 none)) = _
  rw [HT.sIx_none, HT.sIx_nat, List.drop_zero]
  show x.cps.toList.take (min 1 x.length - 0) = x.cps.toList.take 1
  rw [Nat.sub_zero]
  have : x.length = x.cps.toList.length := TL.len_tl x
  rw [this]
  by_cases c : 1 ≤ x.cps.toList.length
  · rw [Nat.min_eq_left c]
  · have e : x.cps.toList = [] := List.length_eq_zero_iff.mp (by omega)
    rw [e]; rfl
theorem cut_1n (x : Str) : TL.tl (cutS x (some 1) none) = (TL.tl x).drop 1 := by
  show ((x.cps.toList.drop (HT.sIx x.length 0 (some ((1 : Nat) : Int)))).take (HT.sIx x.length x.length none - HT.sIx x.length 0 (some ((1 : Nat) : Int)))) = _
  rw [HT.sIx_none, HT.sIx_nat]
  have : x.length = x.cps.toList.length := TL.len_tl x
  rw [this]
  show _ = x.cps.toList.drop 1
  by_cases c : 1 ≤ x.cps.toList.length
  · rw [Nat.min_eq_left c]
    exact List.take_of_length_le (by rw [List.length_drop]; omega)
  · have e : x.cps.toList = [] := List.length_eq_zero_iff.mp (by omega)
    rw [e]; rfl
theorem slice_s {x : Str} {lo hi : Option Int} (h : x.length ≤ LINE) : sliceD (.str x) lo hi = some (.str (cutS x lo hi)) := by
  show (if x.length ≤ LINE then some (D.str (cutS x lo hi)) else none) = _
  rw [if_pos h]
theorem eq_txt {x y : Str} : eqD (.str x) (.str y) = some (.bl (decide (x = y))) := rfl
theorem ne_txt {x y : Str} : neD (.str x) (.str y) = some (.bl (!decide (x = y))) := rfl
theorem sx_iff {x y : Str} : x = y ↔ TL.tl x = TL.tl y := ⟨fun h => by rw [h], TL.ext_tl⟩
def dgS (x : Str) : Str := ⟨(dgs (TL.tl x)).toArray⟩
theorem tl_dgS (x : Str) : TL.tl (dgS x) = dgs (TL.tl x) := TL.tl_mk _
theorem len_s {x : Str} (h : x.length ≤ LINE) : lenB [.str x] = some (.int x.length) := by
  show (if x.length ≤ LINE then some (D.int x.length) else none) = _
  rw [if_pos h]
theorem allB_map {α : Type} {xs : List α} (f : α → Bool) : allB [.lst (xs.map fun x => D.bl (f x))] = some (.bl (xs.all f)) := by
  have e : (xs.map fun x => D.bl (f x)) = (xs.map f).map D.bl := by rw [List.map_map]; rfl
  show (match bls? (xs.map fun x => D.bl (f x)) with | some bs => some (D.bl (bs.all id)) | none => none) = _
  rw [e, bls?_map]
  simp [List.all_map]
theorem idx_s0 {x : Str} (h : x.length ≤ LINE) (h1 : 1 ≤ x.length) : ∃ y, idxD (.str x) (.int 0) = some (.str y) ∧ TL.tl y = (TL.tl x).take 1 := by
  cases e : TL.tl x with
  | nil => rw [TL.len_tl, e] at h1; exact absurd h1 (by simp)
  | cons a r =>
    refine ⟨⟨#[a]⟩, ?_, rfl⟩
    show (if x.length ≤ LINE then (L2.atI (TL.tl x) 0).map fun c => D.str ⟨#[c]⟩ else none) = _
    rw [if_pos h, e]
    have : L2.atI (a :: r) 0 = some a := by unfold L2.atI L2.ixN; simp
    rw [this]
    rfl
theorem in_s {c : Nat} : inS (.str ⟨#[c]⟩) (.str (Str.ofString "0123456789")) = some (.bl (isDg c)) := rfl
/-! splitting -/
theorem spl_len {s : Nat} : ∀ (l acc : List Nat) (p : List Nat), p ∈ TL.spl [s] 0 acc l → p.length ≤ acc.length + l.length
  | [], acc, p, h => by
    rw [TL.spl_nil, List.mem_singleton] at h
    subst h
    exact Nat.le_add_right ..
  | c :: r, acc, p, h => by
    rw [List.length_cons]
    cases e : TL.pre [s] (c :: r) with
    | true =>
      rw [TL.spl_hit e] at h
      rcases List.mem_cons.mp h with rfl | h
      · omega
      · have := spl_len r [] p h
        rw [List.length_nil] at this
        omega
    | false =>
      rw [TL.spl_miss e] at h
      have := spl_len r (acc ++ [c]) p h
      rw [List.length_append, List.length_singleton] at this
      omega
theorem spl_num {s : Nat} : ∀ (l acc : List Nat), 1 ≤ (TL.spl [s] 0 acc l).length ∧ (TL.spl [s] 0 acc l).length ≤ l.length + 1
  | [], acc => by rw [TL.spl_nil]; exact ⟨Nat.le_refl _, Nat.le_refl _⟩
  | c :: r, acc => by
    rw [List.length_cons]
    cases e : TL.pre [s] (c :: r) with
    | true =>
      rw [TL.spl_hit e, List.length_cons]
      have : (TL.spl [s] ([s].length - 1) [] r) = TL.spl [s] 0 [] r := rfl
      rw [this]
      have := spl_num (s := s) r []
      omega
    | false =>
      rw [TL.spl_miss e]
      have := spl_num (s := s) r (acc ++ [c])
      omega
theorem split_ok {x : Str} {y : Str} {s : Nat} (ey : TL.tl y = [s]) (hy : y.cps.all (· < 256) = true) : (∀ p ∈ Txt.split x y, p.length ≤ x.length) ∧ 1 ≤ (Txt.split x y).length ∧ (Txt.split x y).length ≤ x.length + 1 := by
  have h := TL.split_spl x y (by rw [ey]; simp) (TL.kind_ok hy)
  rw [ey] at h
  have hl : (Txt.split x y).length = (TL.spl [s] 0 [] (TL.tl x)).length := by rw [← h, List.length_map]
  refine ⟨fun p hp => ?_, ?_, ?_⟩
  · have h2 : TL.tl p ∈ TL.spl [s] 0 [] (TL.tl x) := by rw [← h]; exact List.mem_map_of_mem hp
    have := spl_len _ _ _ h2
    rw [TL.len_tl, TL.len_tl]
    rw [List.length_nil] at this
    omega
  · rw [hl]; exact (spl_num _ _).1
  · rw [hl, TL.len_tl]; exact (spl_num _ _).2
theorem split_d {x y : Str} (h : x.length + 2 ≤ LINE) (hy : (y.length == 0) = false) : splitD (.str x) (.str y) = some (.lst ((Txt.split x y).map D.str)) := by
  show (if (y.length == 0) = false ∧ x.length + 2 ≤ LINE then some (D.lst ((Txt.split x y).map D.str)) else none) = _
  rw [if_pos ⟨hy, h⟩]
/-! what a word of a block says -/
def rdB : List (Option Int) → Option (Nat × Nat)
  | [some b, some l] => if 0 ≤ b ∧ b ≤ 5 ∧ 1 ≤ l ∧ l ≤ 10 ^ 12 then some (b.toNat, l.toNat) else none
  | _ => none
theorem rdB_2 {b l : Int} : rdB [some b, some l] = if 0 ≤ b ∧ b ≤ 5 ∧ 1 ≤ l ∧ l ≤ 10 ^ 12 then some (b.toNat, l.toNat) else none := rfl
def blkI (x : Str) : List (Option Int) := (Txt.split x (Str.ofString ":")).map rdI
def blkW (x : Str) : Option (Nat × Nat) := rdB (blkI x)
def oB : Option (Nat × Nat) → D | none => .non | some (b, l) => .tup [.int (b : Nat), .int (l : Nat)]
theorem blkW_b {x : Str} {b l : Nat} (h : blkW x = some (b, l)) : b ≤ 5 ∧ 1 ≤ l ∧ l ≤ 10 ^ 12 := by
  unfold blkW rdB at h
  split at h
  · split at h
    · rename_i c
      cases h
      omega
    · cases h
  · cases h
/-! what a text says: the index of the first wrong word, or the pairs -/
def pxW : Nat → List (Nat × Nat) → List Str → Sum Nat (List (Nat × Nat))
  | _, acc, [] => .inr acc
  | n, acc, w :: r => match blkW w with
    | none => .inl n
    | some (b, l) => if b ∈ acc.map Prod.fst ∨ 6 ≤ n then .inl n else pxW (n + 1) (acc ++ [(b, l)]) r
theorem pxW_non {n : Nat} {acc : List (Nat × Nat)} {w : Str} {r : List Str} (h : blkW w = none) : pxW n acc (w :: r) = .inl n := by
  unfold pxW; rw [h]
theorem pxW_bad {n b l : Nat} {acc : List (Nat × Nat)} {w : Str} {r : List Str} (h : blkW w = some (b, l)) (c : b ∈ acc.map Prod.fst ∨ 6 ≤ n) : pxW n acc (w :: r) = .inl n := by
  unfold pxW; rw [h]; exact if_pos c
theorem pxW_go {n b l : Nat} {acc : List (Nat × Nat)} {w : Str} {r : List Str} (h : blkW w = some (b, l)) (c : ¬ (b ∈ acc.map Prod.fst ∨ 6 ≤ n)) : pxW n acc (w :: r) = pxW (n + 1) (acc ++ [(b, l)]) r := by
  conv => lhs; unfold pxW
  rw [h]; exact if_neg c
def lkp : List (Nat × Nat) → Nat → Nat
  | [], _ => 0
  | (c, l) :: r, b => if c = b then l else lkp r b
def pxE (acc : List (Nat × Nat)) : Sum Nat (List Nat × List Nat) :=
  if isort (zN (acc.map Prod.fst)) = zN (List.range acc.length) ∧ ((acc.map Prod.fst).map (lkp acc)).sum ≤ 10 ^ 12 then .inr ((List.range acc.length).map (lkp acc), acc.map Prod.fst) else .inl acc.length
def pxR (x : Str) : Sum Nat (List Nat × List Nat) := match pxW 0 [] (Txt.split x (Str.ofString " ")) with
  | .inl n => .inl n
  | .inr acc => pxE acc
def dcP (acc : List (Nat × Nat)) : List (Key × D) := acc.map fun p => (.inl (p.1 : Int), .int (p.2 : Nat))
theorem dcP_any {acc : List (Nat × Nat)} {b : Nat} : ((dcP acc).any fun kv => decide (kv.1 = Sum.inl (b : Int))) = decide (b ∈ acc.map Prod.fst) := by
  induction acc with
  | nil => rfl
  | cons a r ih =>
    show (decide ((Sum.inl (a.1 : Int) : Key) = Sum.inl (b : Int)) || (dcP r).any _) = _
    rw [ih]
    by_cases c : b = a.1
    · subst c; simp
    · have c2 : ¬ a.1 = b := fun h => c h.symm
      have : ¬ ((a.1 : Int) = (b : Int)) := by omega
      simp [c, this]
theorem dcP_val {b : Nat} : ∀ {acc : List (Nat × Nat)}, valD (dcP acc) (.inl (b : Int) : Key) = if b ∈ acc.map Prod.fst then some (.int (lkp acc b : Nat)) else none
  | [] => rfl
  | (c, l) :: r => by
    have e : valD (dcP ((c, l) :: r)) (.inl (b : Int) : Key) = if (Sum.inl (c : Int) : Key) = Sum.inl (b : Int) then some (.int (l : Nat)) else valD (dcP r) (.inl (b : Int) : Key) := by
      unfold valD dcP
      rw [List.map_cons, List.find?_cons]
      split <;> simp_all
    have e2 : lkp ((c, l) :: r) b = if c = b then l else lkp r b := rfl
    rw [e, dcP_val, List.map_cons, e2]
    by_cases h : c = b
    · subst h; simp
    · have h2 : ¬ b = c := fun e => h e.symm
      have : ¬ ((c : Int) = (b : Int)) := by omega
      have h3 : (b ∈ c :: r.map Prod.fst) = (b ∈ r.map Prod.fst) := by
        rw [List.mem_cons]
        exact propext ⟨fun h => h.elim (fun e => absurd e h2) id, .inr⟩
      have h4 : (b ∈ (c, l).1 :: r.map Prod.fst) = (b ∈ r.map Prod.fst) := h3
      rw [if_neg h, if_neg (fun e => this (Sum.inl.inj e))]
      simp only [h4]
theorem dcP_put {acc : List (Nat × Nat)} {b l : Nat} (h : b ∉ acc.map Prod.fst) : putD (dcP acc) (.inl (b : Int) : Key) (.int (l : Nat)) = dcP (acc ++ [(b, l)]) := by
  unfold putD
  rw [if_neg (by rw [dcP_any]; simpa using h)]
  simp [dcP]
theorem dcP_in {acc : List (Nat × Nat)} {b : Nat} : dinD (.int (b : Nat)) (.dct (dcP acc)) = some (.bl (decide (b ∈ acc.map Prod.fst))) := by
  show some (D.bl (valD (dcP acc) (.inl (b : Int) : Key)).isSome) = _
  rw [dcP_val]
  by_cases c : b ∈ acc.map Prod.fst
  · rw [if_pos c, decide_eq_true c]; rfl
  · rw [if_neg c, decide_eq_false c]; rfl
theorem dcP_get {acc : List (Nat × Nat)} {b : Nat} (h : b ∈ acc.map Prod.fst) : dgetD (.dct (dcP acc)) (.int (b : Nat)) = some (.int (lkp acc b : Nat)) := by
  show valD (dcP acc) (.inl (b : Int) : Key) = _
  rw [dcP_val, if_pos h]
theorem dcP_keys (acc : List (Nat × Nat)) : keyDs (dcP acc) = dN (acc.map Prod.fst) := by
  simp [keyDs, dcP, dN]
theorem dcP_len (acc : List (Nat × Nat)) : (dcP acc).length = acc.length := List.length_map ..
/-! ### repr of texts -/
def RP (k n : Nat) (v : D) : Prop := ∃ p, py v = some p ∧ p.showable = true ∧ p.depth ≤ k ∧ p.shown.length ≤ n
def rpB (v : D) : Bool := match py v with | some p => p.showable && decide (p.depth ≤ 3) && decide (p.shown.length ≤ 200) | none => false
theorem rp_int {i : Int} (h : -(10 ^ 59) ≤ i ∧ i ≤ 10 ^ 59) : RP 3 200 (.int i) := by
  obtain ⟨p, a1, a2, a3, a4⟩ := py_ok (.int i) (sm_of h.1 h.2)
  have e1 : dpD (.int i) = 0 := rfl
  have e2 : szD (.int i) = 70 := rfl
  exact ⟨p, a1, a2, by omega, by omega⟩
theorem rp_L {k n : Nat} : ∀ {xs : List D}, (∀ x ∈ xs, RP k n x) → ∃ ps, pyL xs = some ps ∧ PyData.showableAll ps = true ∧ PyData.depthAll ps ≤ k ∧ (PyData.shownAll ps).length = xs.length ∧ ((PyData.shownAll ps).map fun x => x.length).sum ≤ n * xs.length
  | [], _ => ⟨[], rfl, rfl, Nat.zero_le _, rfl, by simp [PyData.shownAll]⟩
  | d :: ds, h => by
    obtain ⟨p, a1, a2, a3, a4⟩ := h d List.mem_cons_self
    obtain ⟨ps, h1, h2, h3, h4, h5⟩ := rp_L (xs := ds) fun x hx => h x (List.mem_cons_of_mem _ hx)
    refine ⟨p :: ps, by unfold pyL; rw [a1, h1], by unfold PyData.showableAll; rw [a2, h2]; rfl, by unfold PyData.depthAll; omega, by unfold PyData.shownAll; simp [h4], ?_⟩
    unfold PyData.shownAll
    simp only [List.map_cons, List.sum_cons, List.length_cons]
    rw [Nat.mul_add]
    omega
theorem rp_tup {k n : Nat} {xs : List D} (h : ∀ x ∈ xs, RP k n x) : RP (k + 1) (n * xs.length + 2 * xs.length + 3) (.tup xs) := by
  obtain ⟨ps, h1, h2, h3, h4, h5⟩ := rp_L h
  have e3 := tupleText_len_le (PyData.shownAll ps)
  refine ⟨.tuple ps, by unfold py; rw [h1], h2, by show PyData.depthAll ps + 1 ≤ k + 1; omega, ?_⟩
  show (tupleText (PyData.shownAll ps)).length ≤ _
  omega
theorem rp_lst {k n : Nat} {xs : List D} (h : ∀ x ∈ xs, RP k n x) : RP (k + 1) (n * xs.length + 2 * xs.length + 3) (.lst xs) := by
  obtain ⟨ps, h1, h2, h3, h4, h5⟩ := rp_L h
  have e3 := listText_len_le (PyData.shownAll ps)
  refine ⟨.list ps, by unfold py; rw [h1], h2, by show PyData.depthAll ps + 1 ≤ k + 1; omega, ?_⟩
  show (listText (PyData.shownAll ps)).length ≤ _
  omega
theorem RP.mono {k n k' n' : Nat} {v : D} (h : RP k n v) (hk : k ≤ k') (hn : n ≤ n') : RP k' n' v := by
  obtain ⟨p, a1, a2, a3, a4⟩ := h
  exact ⟨p, a1, a2, by omega, by omega⟩
theorem RP.rep {k n : Nat} {v : D} (h : RP k n v) (hk : k ≤ 60) (hn : n ≤ LINE) : ∃ x, reprB [v] = some (.str x) := by
  obtain ⟨p, a1, a2, a3, a4⟩ := h
  have e1 : p.depth ≤ 60 := by omega
  have e2 : p.shown.length ≤ LINE := by omega
  have e5 : reprD v = some p.shown := by
    unfold reprD
    rw [a1]
    simp only [a2, e1, e2, decide_true, Bool.and_self, if_true]
  exact ⟨_, by show (match reprD v with | some x => some (D.str x) | none => none) = _; rw [e5]⟩
def cpk (x : Str) : Prop := ∀ c ∈ x.cps.toList, c < 16 ^ 8
theorem mS_ok {i : Int} (h : -(10 ^ 59) ≤ i ∧ i ≤ 10 ^ 59) : strX [.int i] = some (.str (mS i)) ∧ (mS i).length ≤ 70 := by
  obtain ⟨p, a1, a2, a3, a4⟩ := py_ok (.int i) (sm_of h.1 h.2)
  have e1 : dpD (.int i) = 0 := rfl
  have e2 : szD (.int i) = 70 := rfl
  have : p = .int i := by cases a1; rfl
  subst this
  have e3 : reprD (.int i) = some (PyData.int i).shown := by
    unfold reprD
    rw [a1]
    have b1 : (PyData.int i).depth ≤ 60 := by omega
    have b2 : (PyData.int i).shown.length ≤ LINE := by rw [LN]; omega
    simp only [a2, b1, b2, decide_true, Bool.and_self, if_true]
  have e4 : strD (.int i) = reprD (.int i) := rfl
  have e5 : (PyData.int i).shown = mS i := rfl
  rw [e5] at a4 e3
  exact ⟨by show (match strD (.int i) with | some x => some (D.str x) | none => none) = _; rw [e4, e3], by omega⟩
/-! joined texts -/
def spT : Str := Str.ofString " "
def jnT (xs : List Str) : Str := Str.join spT xs
theorem tl_jn (xs : List Str) : TL.tl (jnT xs) = TL.joinL [32] (xs.map TL.tl) := TL.tl_join spT xs
theorem lsum_le {xs : List Str} {m : Nat} (h : ∀ p ∈ xs, p.length ≤ m) : (xs.map fun z : Str => z.length).sum ≤ m * xs.length := by
  induction xs with
  | nil => exact Nat.zero_le _
  | cons a r ih =>
    rw [List.map_cons, List.sum_cons, List.length_cons, Nat.mul_succ]
    have := ih fun p hp => h p (List.mem_cons_of_mem _ hp)
    have := h a List.mem_cons_self
    omega
theorem add_s {x y : Str} (h : x.length + y.length ≤ LINE) : addD (.str x) (.str y) = some (.str (x ++ y)) := by
  show (if x.length + y.length ≤ LINE then some (D.str (x ++ y)) else none) = _
  rw [if_pos h]
/-! ### the text of an exchange -/
def wdT (L : List Nat) (b : Nat) : Str := mS (b : Nat) ++ Str.ofString ":" ++ mS (gt L b : Nat)
def exT (L O : List Nat) : Str := jnT (O.map (wdT L))
theorem tl_wd (L : List Nat) (b : Nat) : TL.tl (wdT L b) = TL.numL b ++ (58 :: TL.numL (gt L b)) := by
  unfold wdT
  rw [TL.tl_append, TL.tl_append, tl_pos, tl_pos, List.append_assoc]
  rfl
theorem wd_len {L : List Nat} {b : Nat} (hb : b < 10 ^ 20) (hl : gt L b < 10 ^ 20) : (wdT L b).length ≤ 50 := by
  rw [TL.len_tl, tl_wd, List.length_append, List.length_cons]
  have h1 := TL.numL_len (k := 20) (by decide) hb
  have h2 := TL.numL_len (k := 20) (by decide) hl
  omega
theorem le_sumT : ∀ {A : List Nat} {x : Nat}, x ∈ A → x ≤ A.sum
  | [], x, h => by cases h
  | a :: A, x, h => by
    rw [List.sum_cons]
    rcases List.mem_cons.mp h with rfl | h
    · omega
    · have := le_sumT h; omega
section
variable {L O : List Nat} {j : Nat} {P : D → Nat → Prop} {E : Ex → Nat → Prop}
theorem w_draw {k : Int} (hk : 0 < k) (hs : k ≤ 10 ^ 59) (hn : j < NMAX) (q : ∀ v : Nat, (v : Int) < k → P (.int (v : Nat)) (j + 1)) : WF drawF [.jar, .int k] j P E :=
  ⟨k, rfl, hk, sg_sm (sm_of (by omega) hs), hn, fun v v0 v1 => by
    obtain ⟨i, rfl⟩ := Int.eq_ofNat_of_zero_le v0
    exact q i v1⟩
theorem ne_nil {xs : List Nat} : neD (lN xs) (.lst []) = some (.bl (!decide (xs = []))) := by
  have h1 : eqB (lN xs) (.lst []) = some (decide (xs = [])) := by
    show eqP (.lst (dN xs)) (.lst []) = _
    rw [dN_z]
    unfold eqP
    have e1 : py (.lst (dI (zN xs))) = some (.list ((zN xs).map PyData.int)) := by unfold py dI; rw [pyInts]
    have e2 : py (.lst []) = some (.list []) := rfl
    rw [e1, e2]
    simp only [shaped_ints, show SeqAt.shaped (.list []) = true by decide, Bool.and_self, if_true]
    congr 1
    cases xs with
    | nil => rfl
    | cons x r =>
      show PyData.eqv (.list (((x : Int) :: zN r).map PyData.int)) (.list []) = _
      rw [eqv_cons]; simp
  unfold neD
  rw [h1]
theorem perm_erase {α : Type} : ∀ {xs : List α} {i : Nat} (h : i < xs.length), ([xs[i]] ++ xs.eraseIdx i).Perm xs
  | x :: r, 0, h => List.Perm.refl _
  | x :: r, i + 1, h => by
    have ih := perm_erase (xs := r) (i := i) (by simpa using h)
    have hi : i < r.length := by simpa using h
    show (r[i] :: x :: r.eraseIdx i).Perm (x :: r)
    exact (List.Perm.swap _ _ _).trans (List.Perm.cons _ ih)

section
variable {J : Type} {j : J} {P : D → J → Prop} {E : Ex → J → Prop}
theorem w_is_integer {p lo hi : Int} (q : P (.bl (decide (lo ≤ p ∧ p ≤ hi))) j) : WF F_p_is_integer [.int p, .int lo, .int hi] j P E := by
  refine a_run rfl ?_
  show f_p_is_integer [some (.int p), some (.int lo), some (.int hi)] j _ _
  simp [f_p_is_integer, truD]
  rcases Decidable.em (lo ≤ p) with c1 | c1
  · exact Or.inr ⟨c1, by simpa [c1] using q⟩
  · exact Or.inl ⟨by omega, by simpa [c1] using q⟩
end

theorem w_mixed {xs : List Nat} (hl : xs.length ≤ 100000) (hn : j + xs.length ≤ NMAX) (q : ∀ ys : List Nat, ys.Perm xs → P (lN ys) (j + xs.length)) : WF F_mixed [.jar, lN xs] j P E := by
  refine a_run rfl ?_
  show f_mixed [some .jar, some (lN xs), none, none] j _ _
  have hL := LN
  simp [f_mixed]
  refine wH_inv (fun n m j' => ∃ r f : List Nat, Is m [some .jar, some (lN xs), some (lN r), some (lN f)] ∧ r.length = n ∧ r.length + f.length = xs.length ∧ j' = j + f.length ∧ (f ++ r).Perm xs) xs.length ⟨xs, [], rfl, rfl, rfl, rfl, List.Perm.refl _⟩ ?_
  rintro n m j' ⟨r, f, rfl, rfl, h1, rfl, hp⟩
  simp [ne_nil]
  by_cases hr : r = []
  · subst hr
    simp
    have e : f.length = xs.length := by simpa using h1
    rw [e]
    exact q f (by simpa using hp)
  · simp [hr]
    have : 0 < r.length := List.length_pos_iff.mpr hr
    refine w_draw (by omega) (by omega) (by omega) fun i v1 => ?_
    have hi : i < r.length := by omega
    simp
    refine ⟨by omega, by omega, by omega, _, dN_get hi, ?_⟩
    rw [dN_erase, dN_snoc]
    refine ⟨(r.eraseIdx i).length, by rw [List.length_eraseIdx_of_lt hi]; omega, _, _, rfl, rfl, by rw [List.length_eraseIdx_of_lt hi]; simp; omega, by simp; omega, ?_⟩
    rw [List.append_assoc, gt_eq hi]
    exact (List.Perm.append_left f (perm_erase hi)).trans hp

theorem w_pick {xs : List D} (hx : xs ≠ []) (hl : xs.length ≤ 1000000) (hn : j + 1 ≤ NMAX) (q : ∀ x, x ∈ xs → P x (j + 1)) : WF F_pick [.jar, .lst xs] j P E := by
  refine a_run rfl ?_
  show f_pick [some .jar, some (.lst xs)] j _ _
  have hp : 0 < xs.length := List.length_pos_iff.mpr hx
  simp [f_pick]
  refine w_draw (by omega) (by omega) (by omega) fun i v1 => ?_
  have hi : i < xs.length := by omega
  exact ⟨xs[i], idx_l (List.getElem?_eq_getElem hi), q _ (List.getElem_mem hi)⟩

theorem w_far {k : Int} (hk : 0 < k) (hs : k ≤ 10 ^ 59) (hn : j + 2 ≤ NMAX) (q : ∀ v : Nat, (v : Int) < k → P (.int (v : Nat)) (j + 2)) : WF F_far [.jar, .int k] j P E := by
  refine a_run rfl ?_
  show f_far [some .jar, some (.int k)] j _ _
  have e7 : powD (.int 10) (.int 7) = some (.int 10000000) := rfl
  have e6 : powD (.int 10) (.int 6) = some (.int 1000000) := rfl
  simp [f_far, e7, e6]
  refine w_draw (by decide) (by decide) (by omega) fun v v1 => ?_
  simp [e6, mul_i (a := (v : Int)) (b := 1000000) (sm_of (by omega) (by omega)) (by decide)]
  refine w_draw (by decide) (by decide) (by omega) fun u u1 => ?_
  simp [mod_i hk]
  have h0 := Int.emod_nonneg ((v : Int) * 1000000 + (u : Int)) (show k ≠ 0 by omega)
  have h1 := Int.emod_lt_of_pos ((v : Int) * 1000000 + (u : Int)) hk
  obtain ⟨i, hi⟩ := Int.eq_ofNat_of_zero_le h0
  rw [hi] at h1 ⊢
  exact q i h1

theorem w_drawn {most wide : Nat} (hm : 1 ≤ most) (hm2 : most ≤ 1000) (hw : wide ≤ 10 ^ 18) (hn : j + 3 * most + 3 ≤ NMAX) (q : ∀ L O j', IsX L O → O.length ≤ most → (∀ x ∈ L, x * O.length ≤ max O.length (max 1000 wide)) → j' ≤ j + 3 * most + 3 → P (exD L O) j') : WF F_drawn [.jar, .int most, .int wide] j P E := by
  refine a_run rfl ?_
  show f_drawn [some .jar, some (.int most), some (.int wide), none, none, none, none, none] j _ _
  have hL := LN
  have hI := LM
  simp [f_drawn]
  refine w_draw (by omega) (by omega) (by omega) fun i v1 => ?_
  simp [rngD_length]
  obtain ⟨n, e1, hn0⟩ : ∃ n : Nat, 1 + (i : Int) = (n : Int) ∧ n = 1 + i := ⟨1 + i, by omega, rfl⟩
  rw [e1]
  refine ⟨by omega, ?_⟩
  refine w_pick (by simp) (by simp) (by omega) fun x hx => ?_
  obtain ⟨g, rfl, hg⟩ : ∃ g : Nat, x = .int g ∧ g ≤ max 1000 wide := by
    simp at hx
    rcases hx with rfl | rfl | rfl | rfl
    · exact ⟨3, rfl, by omega⟩
    · exact ⟨9, rfl, by omega⟩
    · exact ⟨1000, rfl, by omega⟩
    · exact ⟨wide, rfl, by omega⟩
  simp [rngD_length]
  refine ⟨by omega, by omega, by omega, by omega, ?_⟩
  refine wC_inv (fun k acc j' => j' = j + 2 + 2 * k ∧ ∃ L : List Nat, acc = dN L ∧ L.length = k ∧ (∀ x ∈ L, 0 < x) ∧ ∀ x ∈ L, x * n ≤ max n (max 1000 wide)) ⟨rfl, [], rfl, rfl, by simp, by simp⟩ (fun k d acc j3 hd hh => ?_) fun ys j3 hh => ?_
  · obtain ⟨rfl, L, rfl, rfl, h1, h2⟩ := hh
    have hacc : L.length < n := by
      have := (List.getElem?_eq_some_iff.mp hd).1
      rwa [rngD_length] at this
    simp [div_i (a := (g : Int)) (show (0 : Int) < (n : Int) by omega) (sm_of (by omega) (by omega))]
    obtain ⟨mx, hM, m1, m2, m3⟩ : ∃ mx : Nat, (if 1 < (g : Int) / (n : Int) then (g : Int) / (n : Int) else 1) = (mx : Int) ∧ 1 ≤ mx ∧ mx ≤ 10 ^ 59 ∧ mx * n ≤ max n (max 1000 wide) := by
      have e2 : (g : Int) / (n : Int) = ((g / n : Nat) : Int) := (Int.natCast_ediv g n).symm
      have hq : g / n ≤ g := Nat.div_le_self _ _
      have hq2 : g / n * n ≤ g := Nat.div_mul_le_self _ _
      rw [e2]
      split
      · exact ⟨g / n, rfl, by omega, by omega, by omega⟩
      · exact ⟨1, rfl, by omega, by omega, by omega⟩
    rw [hM]
    refine w_far (by omega) (by omega) (by omega) fun v v1 => ?_
    simp
    have e3 : (1 : Int) + (v : Int) = ((1 + v : Nat) : Int) := by omega
    refine ⟨by omega, L ++ [1 + v], by rw [e3, dN_snoc], by simp, fun x hx => ?_, fun x hx => ?_⟩
    · rcases List.mem_append.mp hx with hx | hx
      · exact h1 x hx
      · rw [List.mem_singleton.mp hx]; omega
    · rcases List.mem_append.mp hx with hx | hx
      · exact h2 x hx
      · rw [List.mem_singleton.mp hx]
        have : (1 + v) * n ≤ mx * n := Nat.mul_le_mul_right _ (by omega)
        omega
  · obtain ⟨rfl, L, rfl, hl, h1, h2⟩ := hh
    rw [rngD_length] at hl
    simp [rngD_length]
    refine ⟨by omega, by omega, by omega, ?_⟩
    rw [rng_N]
    refine w_mixed (by simp; omega) (by simp; omega) fun O hp => ?_
    have lO : O.length = n := by rw [hp.length_eq, List.length_range]
    have hex : ∀ O' : List Nat, O'.Perm (List.range n) → IsX L O' := fun O' hO => by
      have l' : O'.length = n := by rw [hO.length_eq, List.length_range]
      exact ⟨by omega, by omega, by rw [l']; exact hO, h1⟩
    simp
    refine w_draw (by decide) (by decide) (by omega) fun v v1 => ?_
    have hj : j + 2 + 2 * n + n + 1 ≤ j + 3 * most + 3 := by omega
    by_cases hv : v = 0
    · simp [hv, rngD_length]
      refine ⟨by omega, by omega, by omega, by omega, ?_⟩
      have := q L (List.range n).reverse _ (hex _ (List.reverse_perm _)) (by simp; omega) (by simpa using h2) hj
      rw [rng_N, dN_rev]
      exact this
    · simp [hv]
      exact ⟨by omega, q L O _ (hex O hp) (by omega) (by rw [lO]; exact h2) hj⟩

theorem w_read {x : Str} (hx : x.length ≤ LINE) (q : P (oI (rdI x)) j) : WF F_p_read_integer [.str x] j P E := by
  refine a_run rfl ?_
  show f_p_read_integer [some (.str x), none, none] j _ _
  have hL := LN
  have hd := tl_dgS x
  have hdl := dgs_len (TL.tl x)
  have l0 : (dgS x).length = (dgs (TL.tl x)).length := by rw [TL.len_tl, hd]
  have l1 : (dgS x).length ≤ LINE := by
    have := TL.len_tl x
    omega
  have es1 := slice_s (x := x) (lo := none) (hi := some 1) hx
  have es2 := slice_s (x := x) (lo := some 1) (hi := none) hx
  have em : (cutS x none (some 1) = Str.ofString "-") ↔ (TL.tl x).take 1 = [45] := by rw [sx_iff, cut_01]; rfl
  have e0 : (x = Str.ofString "0") ↔ TL.tl x = [48] := by rw [sx_iff]; rfl
  simp only [f_p_read_integer]
  refine wSeq (fun fl m' j' => fl = .next ∧ j' = j ∧ m' = [some (.str x), some (.str (dgS x)), none]) ?_ ?_
  · by_cases c : (TL.tl x).take 1 = [45]
    · have : cutS x (some 1) none = dgS x := TL.ext_tl (by rw [cut_1n, hd]; unfold dgs; rw [if_pos c])
      simp [es1, es2, eq_txt, em, c, this]
    · have : x = dgS x := TL.ext_tl (by rw [hd]; unfold dgs; rw [if_neg c])
      simp [es1, es2, eq_txt, em, c, ← this]
  rintro fl m' j' ⟨rfl, rfl, rfl⟩
  simp only [thenS]
  have hsq : seqL (.str (dgS x)) = some ((dgs (TL.tl x)).map fun c => .str ⟨#[c]⟩) := by rw [← hd]; rfl
  refine wSeq (fun fl m j1 => j1 = j' ∧ ((fl = .next ∧ m = [some (.str x), some (.str (dgS x)), none] ∧ 1 ≤ (dgs (TL.tl x)).length ∧ (dgs (TL.tl x)).length ≤ 20 ∧ (dgs (TL.tl x)).all isDg = true) ∨ (fl = .ret .non ∧ okW (TL.tl x) = false))) ?_ ?_
  · simp [len_s l1, l0]
    by_cases c1 : (dgs (TL.tl x)).length < 1
    · exact .inl ⟨by omega, by unfold okW; rw [decide_eq_false (by omega : ¬ 1 ≤ (dgs (TL.tl x)).length)]; rfl⟩
    refine .inr ⟨by omega, ?_⟩
    by_cases c2 : 20 < (dgs (TL.tl x)).length
    · exact .inl ⟨by omega, by unfold okW; rw [decide_eq_false (by omega : ¬ (dgs (TL.tl x)).length ≤ 20), Bool.and_false]; rfl⟩
    refine .inr ⟨by omega, _, hsq, by rw [List.length_map]; omega, wC_map (fun c => .bl (isDg c)) (fun c hc => ⟨_, rfl, ?_⟩) ?_⟩
    · simp [in_s]
    · refine ⟨_, allB_map isDg, _, rfl, ?_⟩
      by_cases c3 : (dgs (TL.tl x)).all isDg = true
      · rw [c3]
        simp [- List.all_eq_true]
        exact ⟨by omega, by omega⟩
      · rw [Bool.not_eq_true] at c3
        rw [c3]
        simp [- List.all_eq_true]
        unfold okW
        rw [c3, Bool.and_false]; rfl
  rintro fl m j1 ⟨rfl, ⟨rfl, rfl, d1, d2, d3⟩ | ⟨rfl, ok⟩⟩
  rotate_left
  · simp only [thenS]
    simp
    unfold rdI rdL at q
    rw [if_neg (by rw [ok]; simp)] at q
    exact q
  simp only [thenS]
  obtain ⟨y, ey, ty⟩ := idx_s0 l1 (by omega)
  have e3 : (y = Str.ofString "0") ↔ (dgs (TL.tl x)).take 1 = [48] := by rw [sx_iff, ty, hd]; rfl
  by_cases c4 : (dgs (TL.tl x)).take 1 = [48] ∧ ¬ TL.tl x = [48]
  · have ok : okW (TL.tl x) = false := by
      unfold okW
      rw [decide_eq_true c4.1, decide_eq_false c4.2]
      simp
    unfold rdI rdL at q
    rw [if_neg (by rw [ok]; simp)] at q
    simp [ey, eq_txt, ne_txt, e3, e0, c4]
    exact q
  · have ok : okW (TL.tl x) = true := by
      unfold okW
      rw [decide_eq_true d1, decide_eq_true d2, d3]
      by_cases c5 : (dgs (TL.tl x)).take 1 = [48]
      · have : TL.tl x = [48] := Classical.byContradiction fun h => c4 ⟨c5, h⟩
        rw [decide_eq_true this]; simp
      · rw [decide_eq_false c5]; rfl
    obtain ⟨i1, i2⟩ := int_ok ok
    have i3 : intS [.str x] = some (.int (vaW (TL.tl x))) := by
      show (match intText? x with | some n => if x.length ≤ 640 then some (D.int n) else none | none => none) = _
      rw [i1]
      show (if x.length ≤ 640 then _ else _) = _
      rw [if_pos (by omega)]
    have q2 : P (.int (vaW (TL.tl x))) j1 := by
      unfold rdI rdL at q
      rw [if_pos ok] at q
      exact q
    by_cases c5 : (dgs (TL.tl x)).take 1 = [48]
    · have : TL.tl x = [48] := Classical.byContradiction fun h => c4 ⟨c5, h⟩
      simp [ey, eq_txt, ne_txt, e3, e0, c5, this, i3]
      rw [this] at q2
      exact ⟨.inr (by decide), q2⟩
    · simp [ey, eq_txt, ne_txt, e3, e0, c5, i3]
      exact q2

def inR (lo hi : Int) : Option Int → Bool
  | some p => decide (lo ≤ p ∧ p ≤ hi)
  | none => false
theorem w_is_int {v : Option Int} {lo hi : Int} (q : P (.bl (inR lo hi v)) j) : WF F_p_is_integer [oI v, .int lo, .int hi] j P E := by
  cases v with
  | some p => exact w_is_integer q
  | none =>
    refine a_run rfl ?_
    show f_p_is_integer [some .non, some (.int lo), some (.int hi)] j _ _
    have e : isiD "int" .non = some (.bl false) := rfl
    simp [f_p_is_integer, e]
    exact q
theorem w_block {x : Str} (hx : x.length + 2 ≤ LINE) (q : P (oB (blkW x)) j) : WF F_p_read_block [.str x] j P E := by
  refine a_run rfl ?_
  show f_p_read_block [some (.str x), none, none] j _ _
  obtain ⟨s1, s2, s3⟩ := split_ok (x := x) (y := Str.ofString ":") (s := 58) (by decide) (by decide +kernel)
  have es := split_d (x := x) (y := Str.ofString ":") hx (by decide)
  simp only [f_p_read_block]
  refine wSeq (fun fl m' j' => fl = .next ∧ j' = j ∧ m' = [some (.str x), some (.lst ((blkI x).map oI)), none]) ?_ ?_
  · simp [es]
    refine ⟨by omega, ?_⟩
    refine wC_map (fun w => oI (rdI w)) (fun w hw => ⟨_, rfl, ?_⟩) ?_
    · simp
      refine w_read (by have := s1 w hw; omega) ?_
      exact ⟨rfl, rfl⟩
    · unfold blkI
      rw [List.map_map]
      exact ⟨rfl, rfl, rfl⟩
  rintro fl m' j' ⟨rfl, rfl, rfl⟩
  simp only [thenS]
  unfold blkW at q
  generalize blkI x = ns at q ⊢
  match ns, q with
  | [], q =>
    simp
    exact q
  | [a], q =>
    simp
    cases a <;> exact q
  | [a, b], q =>
    have i0 : idxD (.lst [oI a, oI b]) (.int 0) = some (oI a) := rfl
    have i1 : idxD (.lst [oI a, oI b]) (.int 1) = some (oI b) := rfl
    simp [i0, i1]
    refine w_is_int ?_
    cases a with
    | none => simp [inR]; exact q
    | some a =>
      by_cases c : 0 ≤ a ∧ a ≤ 5
      · simp [inR, c, i0, i1]
        refine w_is_int ?_
        cases b with
        | none => simp [inR]; exact q
        | some b =>
          by_cases c2 : 1 ≤ b ∧ b ≤ 1000000000000
          · simp [inR, c2, i0, i1]
            refine ⟨by have := LN; omega, ?_⟩
            rw [rdB_2, if_pos ⟨c.1, c.2, c2.1, c2.2⟩] at q
            have e1 : ((a.toNat : Nat) : Int) = a := by omega
            have e2 : ((b.toNat : Nat) : Int) = b := by omega
            unfold oB at q
            simp only [e1, e2] at q
            exact q
          · rw [rdB_2, if_neg fun h => c2 ⟨h.2.2.1, h.2.2.2⟩] at q
            simp [inR, c2]
            exact q
      · have c3 : inR 0 5 (some a) = false := decide_eq_false c
        rw [c3]
        simp
        cases b with
        | none => exact q
        | some b =>
          rw [rdB_2, if_neg fun h => c ⟨h.1, h.2.1⟩] at q
          exact q
  | a :: b :: c :: r, q =>
    simp
    refine .inr ⟨by omega, ?_⟩
    cases a <;> cases b <;> exact q

theorem enum_get {xs : List D} {k : Nat} {d : D} (h : (enumD xs)[k]? = some d) : ∃ x, xs[k]? = some x ∧ d = .tup [.int (k : Nat), x] := by
  unfold enumD at h
  rw [List.getElem?_map, List.getElem?_zipIdx] at h
  cases e : xs[k]? with
  | none => rw [e] at h; cases h
  | some x =>
    rw [e] at h
    injection h with h
    exact ⟨x, rfl, by rw [← h]; simp⟩
structure Pxi (ws : List Str) (k : Nat) (acc : List (Nat × Nat)) : Prop where
  go : pxW 0 [] ws = pxW k acc (ws.drop k)
  len : acc.length = k
  le : k ≤ 6
theorem w_parse {x : Str} (hx : x.length + 2 ≤ LINE) (q : match pxR x with | .inl n => E ⟨2, some (.int (n : Nat))⟩ j | .inr p => P (exD p.1 p.2) j) : WF F_p_parse_exchange [.str x] j P E := by
  refine a_run rfl ?_
  show f_p_parse_exchange [some (.str x), none, none, none, none, none, none] j _ _
  obtain ⟨s1, s2, s3⟩ := split_ok (x := x) (y := Str.ofString " ") (s := 32) (by decide) (by decide +kernel)
  have es := split_d (x := x) (y := Str.ofString " ") hx (by decide)
  have hL := LN
  have ei : isiD "str" (.str x) = some (.bl true) := rfl
  unfold pxR at q
  generalize hws : Txt.split x (Str.ofString " ") = ws at *
  simp only [f_p_parse_exchange]
  refine wSeq (fun fl m' j' => fl = .next ∧ j' = j ∧ m' = [some (.str x), none, none, none, none, none, none]) (by simp [ei]) ?_
  rintro fl m' j' ⟨rfl, rfl, rfl⟩
  simp only [thenS]
  refine wSeq (fun fl m j1 => fl = .next ∧ j1 = j' ∧ m = [some (.str x), some (.dct []), none, none, none, none, none]) (by simp) ?_
  rintro fl m j1 ⟨rfl, rfl, rfl⟩
  simp only [thenS]
  refine wSeq (fun fl m j2 => j2 = j1 ∧ fl = .next ∧ ∃ acc a b c, pxW 0 [] ws = .inr acc ∧ acc.length ≤ 6 ∧ m = [some (.str x), some (.dct (dcP acc)), a, b, c, none, none]) ?_ ?_
  · simp [es]
    refine wL_inv (fun k m j2 => j2 = j1 ∧ ∃ acc a b c, Pxi ws k acc ∧ Is m [some (.str x), some (.dct (dcP acc)), a, b, c, none, none]) ⟨rfl, [], none, none, none, ⟨rfl, rfl, by omega⟩, rfl⟩ ?_ ?_
    · rintro k d m j2 hd ⟨rfl, acc, a, b, c, ⟨g1, g2, g3⟩, rfl⟩
      obtain ⟨y, hy, rfl⟩ := enum_get hd
      rw [List.getElem?_map, Option.map_eq_some_iff] at hy
      obtain ⟨w, hw, rfl⟩ := hy
      have hk : k < ws.length := (List.getElem?_eq_some_iff.mp hw).1
      have hwe : ws.drop k = w :: ws.drop (k + 1) := by
        rw [List.drop_eq_getElem_cons hk, (List.getElem?_eq_some_iff.mp hw).2]
      have hwl := s1 w (List.mem_of_getElem? hw)
      rw [hwe] at g1
      simp
      refine w_block (by omega) ?_
      cases hb : blkW w with
      | none =>
        rw [g1, pxW_non hb] at q
        simp [oB, isND]
        exact q
      | some p =>
        obtain ⟨b1, l1⟩ := p
        have e1 : isND (oB (some (b1, l1))) .non = some (.bl false) := rfl
        have e2 : idxD (oB (some (b1, l1))) (.int 0) = some (.int (b1 : Nat)) := rfl
        have e3 : idxD (oB (some (b1, l1))) (.int 1) = some (.int (l1 : Nat)) := rfl
        have e4 : dinD (.int (b1 : Nat)) (.dct (dcP acc)) = _ := dcP_in
        by_cases c1 : b1 ∈ acc.map Prod.fst
        · rw [decide_eq_true c1] at e4
          rw [g1, pxW_bad hb (.inl c1)] at q
          simp [e1, e2, e4]
          exact q
        · rw [decide_eq_false c1] at e4
          by_cases c2 : 6 ≤ k
          · rw [g1, pxW_bad hb (.inr c2)] at q
            simp [e1, e2, e4]
            exact .inr ⟨by omega, q⟩
          · rw [pxW_go hb (fun h => h.elim c1 c2)] at g1
            simp [e1, e2, e3, e4]
            refine .inl ⟨by omega, _, rfl, by rw [dcP_len]; omega, acc ++ [(b1, l1)], ⟨by rw [g1], by simp [g2], by omega⟩, some (.int (k : Nat)), some (.str w), some (oB (some (b1, l1))), ?_⟩
            rw [dcP_put c1]; rfl
    · rintro m j2 ⟨rfl, acc, a, b, c, ⟨g1, g2, g3⟩, rfl⟩
      have e : ws.drop (enumD (ws.map D.str)).length = [] := by
        unfold enumD
        rw [List.length_map, List.length_zipIdx, List.length_map]
        exact List.drop_length
      rw [e] at g1
      exact ⟨rfl, rfl, acc, a, b, c, g1, by omega, rfl⟩
  rintro fl m j2 ⟨rfl, rfl, acc, a, b, c, g1, g2, rfl⟩
  rw [g1] at q
  simp only [thenS]
  refine wSeq (fun fl m j3 => fl = .next ∧ j3 = j2 ∧ m = [some (.str x), some (.dct (dcP acc)), a, b, c, some (tN (acc.map Prod.fst)), none]) ?_ ?_
  · have e1 : listDcB [.dct (dcP acc)] = some (lN (acc.map Prod.fst)) := by
      show some (D.lst (keyDs (dcP acc))) = _
      rw [dcP_keys]
    simp [e1]
  rintro fl m j3 ⟨rfl, rfl, rfl⟩
  simp only [thenS]
  have hsrt : sortD [tN (acc.map Prod.fst)] = some (lZ (isort (zN (acc.map Prod.fst)))) := by
    show sortD [.tup (dN (acc.map Prod.fst))] = _
    rw [dN_z]
    exact sort_t
  have hrg : ∀ n : Nat, D.lst (rngD 0 n) = lN (List.range n) := fun n => by rw [nrng]; rfl
  have hne : neD (lZ (isort (zN (acc.map Prod.fst)))) (.lst (rngD 0 acc.length)) = some (.bl (!decide (isort (zN (acc.map Prod.fst)) = zN (List.range acc.length)))) := by
    have : lN (List.range acc.length) = lZ (zN (List.range acc.length)) := by
      show D.lst (dN _) = _
      rw [dN_z]
    rw [hrg, this]
    show neD (lZ _) (lZ _) = _
    rw [neD_l (by simp) (by simp) (by simp) (by simp)]
    simp
  have hlm : -LIM ≤ (acc.length : Int) ∧ (acc.length : Int) ≤ LIM := by unfold LIM; omega
  have hlen : lenB [tN (acc.map Prod.fst)] = some (.int (acc.length : Nat)) := by
    show some (D.int (dN (acc.map Prod.fst)).length) = _
    rw [dN_len, List.length_map]
  simp [hsrt]
  refine ⟨hlm.1, hlm.2, by rw [rngD_length]; omega, _, hne, ?_⟩
  by_cases c1 : isort (zN (acc.map Prod.fst)) = zN (List.range acc.length)
  · rw [decide_eq_true c1]
    refine .inl ⟨rfl, by omega, wC_map (c := fun b : Nat => .int (b : Nat)) (fun b => .int (lkp acc b : Nat)) (fun b hb => ⟨_, rfl, ?_⟩) ?_⟩
    · simp [dcP_get hb]
    · have hsum : sumB [.lst ((acc.map Prod.fst).map fun b => D.int (lkp acc b : Nat))] = some (.int (((acc.map Prod.fst).map (lkp acc)).sum : Nat)) := by
        have e : ((acc.map Prod.fst).map fun b => D.int (lkp acc b : Nat)) = dN ((acc.map Prod.fst).map (lkp acc)) := by simp [dN]
        rw [e]
        exact sum_lN
      refine ⟨_, hsum, ?_⟩
      by_cases c2 : ((acc.map Prod.fst).map (lkp acc)).sum ≤ 10 ^ 12
      · have hgt : gtD (.int (((acc.map Prod.fst).map (lkp acc)).sum : Nat)) (.int 1000000000000) = some (.bl false) := by
          show some (D.bl (decide ((1000000000000 : Int) < (((acc.map Prod.fst).map (lkp acc)).sum : Nat)))) = _
          rw [decide_eq_false (by omega)]
        refine ⟨_, hgt, _, rfl, ?_⟩
        simp only [Bool.false_eq_true, if_false]
        refine ⟨_, rfl, _, hlen, _, rfl, hlm.1, hlm.2, by rw [rngD_length]; omega, ?_⟩
        have hpm : (zN (acc.map Prod.fst)).Perm (zN (List.range acc.length)) := by rw [← c1]; exact (isort_perm _).symm
        refine wC_rng (k := acc.length) (fun b => .int (lkp acc b : Nat)) (fun b hb => ⟨_, rfl, ?_⟩) ?_
        · have : b ∈ acc.map Prod.fst := by
            have := hpm.symm.subset (List.mem_map_of_mem (f := fun n : Nat => (n : Int)) (List.mem_range.mpr hb))
            obtain ⟨b', h1, h2⟩ := List.mem_map.mp this
            have : b' = b := by omega
            exact this ▸ h1
          simp [dcP_get this]
        · have q2 : P (exD ((List.range acc.length).map (lkp acc)) (acc.map Prod.fst)) j3 := by
            have e : pxE acc = .inr ((List.range acc.length).map (lkp acc), acc.map Prod.fst) := if_pos ⟨c1, c2⟩
            have q' : (match pxE acc with | .inl n => E ⟨2, some (.int (n : Nat))⟩ j3 | .inr p => P (exD p.1 p.2) j3) := q
            rw [e] at q'
            exact q'
          refine ⟨_, rfl, _, rfl, by omega, ?_⟩
          have e : (D.tup [.tup ((List.range acc.length).map fun b => D.int (lkp acc b : Nat)), tN (acc.map Prod.fst)]) = exD ((List.range acc.length).map (lkp acc)) (acc.map Prod.fst) := by
            have : ((List.range acc.length).map fun b => D.int (lkp acc b : Nat)) = dN ((List.range acc.length).map (lkp acc)) := by
              unfold dN
              rw [List.map_map]; rfl
            rw [this]
          rw [e]
          exact q2
      · have hgt : gtD (.int (((acc.map Prod.fst).map (lkp acc)).sum : Nat)) (.int 1000000000000) = some (.bl true) := by
          show some (D.bl (decide ((1000000000000 : Int) < (((acc.map Prod.fst).map (lkp acc)).sum : Nat)))) = _
          rw [decide_eq_true (by omega)]
        refine ⟨_, hgt, _, rfl, ?_⟩
        simp only [if_true]
        refine ⟨_, rfl, _, hlen, ?_⟩
        have e : pxE acc = .inl acc.length := if_neg fun h => c2 h.2
        have q' : (match pxE acc with | .inl n => E ⟨2, some (.int (n : Nat))⟩ j3 | .inr p => P (exD p.1 p.2) j3) := q
        rw [e] at q'
        exact q'
  · rw [decide_eq_false c1]
    refine .inr ⟨rfl, ?_⟩
    have e : pxE acc = .inl acc.length := if_neg fun h => c1 h.1
    have q' : (match pxE acc with | .inl n => E ⟨2, some (.int (n : Nat))⟩ j3 | .inr p => P (exD p.1 p.2) j3) := q
    rw [e] at q'
    exact q'

theorem w_parse_integer {x : Str} (hx : x.length ≤ LINE) (q : match rdI x with | some i => P (.int i) j | none => E ⟨2, some (.int 0)⟩ j) : WF F_p_parse_integer [.str x] j P E := by
  refine a_run rfl ?_
  show f_p_parse_integer [some (.str x), none] j _ _
  have ei : isiD "str" (.str x) = some (.bl true) := rfl
  simp [f_p_parse_integer, ei]
  refine w_read hx ?_
  cases e : rdI x with
  | none =>
    rw [e] at q
    simp [oI, isND]
    exact q
  | some i =>
    rw [e] at q
    simp [oI, isND]
    exact q
end

section
variable {j : Nat} {P : D → Nat → Prop} {E : Ex → Nat → Prop}
theorem neLD_nil {xs : List D} : neLD (.lst xs) (.lst []) = some (.bl (!xs.isEmpty)) := by
  cases xs with
  | nil => exact ne_lN (A := []) (B := [])
  | cons a r => rfl
theorem nin_s {c : Nat} : ninS (.str ⟨#[c]⟩) (.str (Str.ofString "0123456789")) = some (.bl (!isDg c)) := rfl
theorem okW_iff {x : List Nat} : okW x = true ↔ 1 ≤ (dgs x).length ∧ (dgs x).length ≤ 20 ∧ (dgs x).all isDg = true ∧ ¬ ((dgs x).take 1 = [48] ∧ x ≠ [48]) := by
  unfold okW
  simp only [Bool.and_eq_true, Bool.not_eq_true', Bool.and_eq_false_imp, decide_eq_true_eq, Bool.not_eq_false', and_assoc]
  constructor
  · rintro ⟨a, b, c, d⟩
    exact ⟨a, b, c, fun ⟨h1, h2⟩ => h2 (d h1)⟩
  · rintro ⟨a, b, c, d⟩
    exact ⟨a, b, c, fun h1 => Classical.byContradiction fun h2 => d ⟨h1, h2⟩⟩
theorem rdL_no {x : List Nat} (h : ¬ okW x = true) : rdL x = none := if_neg h
theorem rdL_ok {x : List Nat} (h : okW x = true) : rdL x = some (vaW x) := if_pos h
theorem w_intof {x : Str} (hx : x.length ≤ LINE) (q : P (oI (rdI x)) j) : WF F_integer_of [.str x] j P E := by
  refine a_run rfl ?_
  show f_integer_of [some (.str x), none, none] j _ _
  have hL := LN
  have hd := tl_dgS x
  have hdl := dgs_len (TL.tl x)
  have l0 : (dgS x).length = (dgs (TL.tl x)).length := by rw [TL.len_tl, hd]
  have l1 : (dgS x).length ≤ LINE := by
    have := TL.len_tl x
    omega
  have es1 := slice_s (x := x) (lo := none) (hi := some 1) hx
  have es2 := slice_s (x := x) (lo := some 1) (hi := none) hx
  have em : (cutS x none (some 1) = Str.ofString "-") ↔ (TL.tl x).take 1 = [45] := by rw [sx_iff, cut_01]; rfl
  have e0 : (x = Str.ofString "0") ↔ TL.tl x = [48] := by rw [sx_iff]; rfl
  simp only [f_integer_of]
  refine wSeq (fun fl m' j' => fl = .next ∧ j' = j ∧ m' = [some (.str x), some (.str (dgS x)), none]) ?_ ?_
  · by_cases c : (TL.tl x).take 1 = [45]
    · have : cutS x (some 1) none = dgS x := TL.ext_tl (by rw [cut_1n, hd]; unfold dgs; rw [if_pos c])
      simp [es1, es2, eq_txt, em, c, this]
    · have : x = dgS x := TL.ext_tl (by rw [hd]; unfold dgs; rw [if_neg c])
      simp [es1, es2, eq_txt, em, c, ← this]
  rintro fl m' j' ⟨rfl, rfl, rfl⟩
  simp only [thenS]
  have hsq : seqL (.str (dgS x)) = some ((dgs (TL.tl x)).map fun c => .str ⟨#[c]⟩) := by rw [← hd]; rfl
  have eem : (dgS x = Str.ofString "") ↔ (dgs (TL.tl x)).length = 0 := by
    rw [sx_iff, hd]
    exact List.length_eq_zero_iff.symm
  refine wSeq (fun fl m j1 => j1 = j' ∧ ((fl = Fl.next ∧ m = [some (.str x), some (.str (dgS x)), none] ∧ 1 ≤ (dgs (TL.tl x)).length ∧ (dgs (TL.tl x)).length ≤ 20 ∧ (dgs (TL.tl x)).all isDg = true) ∨ (fl = .ret .non ∧ ¬ okW (TL.tl x) = true))) ?_ ?_
  · simp only [okW_iff]
    simp [len_s l1, l0, eq_txt, eem, - List.all_eq_true]
    by_cases c1 : (dgs (TL.tl x)).length = 0
    · exact .inr ⟨List.length_eq_zero_iff.mp c1, fun h => by omega⟩
    refine .inl ⟨fun e => c1 (by rw [e]; rfl), ?_⟩
    by_cases c2 : 20 < (dgs (TL.tl x)).length
    · exact .inr ⟨by omega, fun _ h => by omega⟩
    refine .inl ⟨by omega, _, hsq, by rw [List.length_map]; omega, wC_filter (fun c => !isDg c) (fun c => .str ⟨#[c]⟩) (fun c hc => ⟨_, rfl, ?_, ?_⟩) ?_⟩
    · simp [nin_s]
    · simp
    · refine ⟨by omega, _, neLD_nil, _, rfl, ?_⟩
      have hem : (((dgs (TL.tl x)).filter fun c => !isDg c).map fun c => D.str ⟨#[c]⟩).isEmpty = (dgs (TL.tl x)).all isDg := by
        rw [Bool.eq_iff_iff]
        simp
      rw [hem]
      · by_cases c3 : (dgs (TL.tl x)).all isDg = true
        · rw [c3]
          simp only [Bool.not_true, Bool.false_eq_true, if_false]
          exact ⟨trivial, .inl ⟨trivial, trivial, by omega, by omega, trivial⟩⟩
        · rw [if_pos (by simpa using c3)]
          refine ⟨rfl, .inr ⟨rfl, fun h => c3 h.2.2.1⟩⟩
  rintro fl m j1 ⟨rfl, ⟨rfl, rfl, d1, d2, d3⟩ | ⟨rfl, ok⟩⟩
  rotate_left
  · simp only [thenS]
    simp
    unfold rdI at q
    rw [rdL_no ok] at q
    exact q
  simp only [thenS]
  obtain ⟨y, ey, ty⟩ := idx_s0 l1 (by omega)
  have e3 : (y = Str.ofString "0") ↔ (dgs (TL.tl x)).take 1 = [48] := by rw [sx_iff, ty, hd]; rfl
  by_cases c4 : (dgs (TL.tl x)).take 1 = [48] ∧ ¬ TL.tl x = [48]
  · have ok : ¬ okW (TL.tl x) = true := fun h => (okW_iff.mp h).2.2.2 c4
    unfold rdI at q
    rw [rdL_no ok] at q
    simp [ey, eq_txt, ne_txt, e3, e0, c4]
    exact q
  · have ok : okW (TL.tl x) = true := okW_iff.mpr ⟨d1, d2, d3, c4⟩
    obtain ⟨i1, i2⟩ := int_ok ok
    have i3 : intS [.str x] = some (.int (vaW (TL.tl x))) := by
      show (match intText? x with | some n => if x.length ≤ 640 then some (D.int n) else none | none => none) = _
      rw [i1]
      show (if x.length ≤ 640 then _ else _) = _
      rw [if_pos (by omega)]
    have q2 : P (.int (vaW (TL.tl x))) j1 := by
      unfold rdI at q
      rw [rdL_ok ok] at q
      exact q
    by_cases c5 : (dgs (TL.tl x)).take 1 = [48]
    · have : TL.tl x = [48] := Classical.byContradiction fun h => c4 ⟨c5, h⟩
      simp [ey, eq_txt, ne_txt, e3, e0, c5, this, i3]
      rw [this] at q2
      exact ⟨.inr (by decide), q2⟩
    · simp [ey, eq_txt, ne_txt, e3, e0, c5, i3]
      exact q2
end
section
variable {j : Nat} {P : D → Nat → Prop} {E : Ex → Nat → Prop}
theorem w_lblock {x : Str} (hx : x.length + 2 ≤ LINE) (q : P (oB (blkW x)) j) : WF F_block [.str x] j P E := by
  refine a_run rfl ?_
  show f_block [some (.str x), none, none, none] j _ _
  obtain ⟨s1, s2, s3⟩ := split_ok (x := x) (y := Str.ofString ":") (s := 58) (by decide) (by decide +kernel)
  have es := split_d (x := x) (y := Str.ofString ":") hx (by decide)
  simp only [f_block]
  refine wSeq (fun fl m' j' => fl = .next ∧ j' = j ∧ m' = [some (.str x), some (.lst ((Txt.split x (Str.ofString ":")).map D.str)), none, none]) (by simp [es]) ?_
  rintro fl m' j' ⟨rfl, rfl, rfl⟩
  simp only [thenS]
  have hln : (blkI x).length = (Txt.split x (Str.ofString ":")).length := List.length_map ..
  refine wSeq (fun fl m j1 => fl = .next ∧ j1 = j' ∧ m = [some (.str x), some (.lst ((Txt.split x (Str.ofString ":")).map D.str)), some (.lst ((blkI x).map oI)), none]) ?_ ?_
  · simp
    refine ⟨by omega, ?_⟩
    refine wC_map (fun w => oI (rdI w)) (fun w hw => ⟨_, rfl, ?_⟩) ?_
    · simp
      refine w_intof (by have := s1 w hw; omega) ?_
      exact ⟨rfl, rfl⟩
    · unfold blkI
      rw [List.map_map]
      exact ⟨rfl, rfl, rfl⟩
  rintro fl m j1 ⟨rfl, rfl, rfl⟩
  simp only [thenS]
  have hl2 : lenB [.lst ((Txt.split x (Str.ofString ":")).map D.str)] = some (.int ((blkI x).length : Nat)) := by
    show some (D.int ((Txt.split x (Str.ofString ":")).map D.str).length) = _
    rw [List.length_map, hln]
  unfold blkW at q
  generalize (Txt.split x (Str.ofString ":")).map D.str = ts at hl2
  generalize blkI x = ns at q hl2 ⊢
  have e12 : powD (.int 10) (.int 12) = some (.int 1000000000000) := rfl
  match ns, q, hl2 with
  | [], q, hl2 =>
    simp [hl2]
    exact q
  | [a], q, hl2 =>
    simp [hl2]
    cases a <;> exact q
  | [a, b], q, hl2 =>
    have i0 : idxD (.lst [oI a, oI b]) (.int 0) = some (oI a) := rfl
    have i1 : idxD (.lst [oI a, oI b]) (.int 1) = some (oI b) := rfl
    have i2 : inD .non (.lst [oI a, oI b]) = some (.bl (a.isNone || b.isNone)) := by
      cases a <;> cases b <;> rfl
    simp [hl2, i0, i1, i2, e12]
    cases a with
    | none => exact .inr ⟨.inl rfl, by cases b <;> exact q⟩
    | some a =>
      cases b with
      | none => exact .inr ⟨.inr rfl, q⟩
      | some b =>
        refine .inl ⟨⟨rfl, rfl⟩, ?_⟩
        rw [rdB_2] at q
        have l1 : leD (.int 0) (oI (some a)) = some (.bl (decide (0 ≤ a))) := rfl
        have l2 : ltD (oI (some a)) (.int 6) = some (.bl (decide (a < 6))) := rfl
        have l3 : leD (.int 1) (oI (some b)) = some (.bl (decide (1 ≤ b))) := rfl
        have l4 : leD (oI (some b)) (.int 1000000000000) = some (.bl (decide (b ≤ 1000000000000))) := rfl
        have no : ¬ (0 ≤ a ∧ a ≤ 5 ∧ 1 ≤ b ∧ b ≤ 10 ^ 12) → P .non j1 := fun h => by
          rw [if_neg h] at q
          exact q
        by_cases c1 : 0 ≤ a
        rotate_left
        · exact .inl ⟨by rw [l1, decide_eq_false c1], no fun h => c1 h.1⟩
        refine .inr ⟨by rw [l1, decide_eq_true c1], _, l2, ?_⟩
        by_cases c2 : a < 6
        rotate_left
        · exact .inl ⟨by rw [decide_eq_false c2], no fun h => c2 (by omega)⟩
        refine .inr ⟨by rw [decide_eq_true c2], ?_⟩
        by_cases c3 : 1 ≤ b
        rotate_left
        · exact .inl ⟨by rw [l3, decide_eq_false c3], no fun h => c3 h.2.2.1⟩
        refine .inr ⟨by rw [l3, decide_eq_true c3], _, l4, ?_⟩
        by_cases c4 : b ≤ 1000000000000
        rotate_left
        · exact .inl ⟨by rw [decide_eq_false c4], no fun h => c4 (by omega)⟩
        refine .inr ⟨by rw [decide_eq_true c4], by have := LN; omega, ?_⟩
        rw [if_pos (by omega)] at q
        have e1 : ((a.toNat : Nat) : Int) = a := by omega
        have e2 : ((b.toNat : Nat) : Int) = b := by omega
        unfold oB at q
        simp only [e1, e2] at q
        exact q
  | a :: b :: c :: r, q, hl2 =>
    simp [hl2]
    refine .inr ⟨by omega, ?_⟩
    cases a <;> cases b <;> exact q
end
/-! ### pairs -/
def prD (p : Nat × Nat) : D := .tup [.int (p.1 : Nat), .int (p.2 : Nat)]
def prP (p : Nat × Nat) : PyData := .tuple [.int (p.1 : Nat), .int (p.2 : Nat)]
theorem pyL_pr : ∀ acc : List (Nat × Nat), pyL (acc.map prD) = some (acc.map prP)
  | [] => rfl
  | p :: r => by
    show pyL (prD p :: r.map prD) = _
    unfold pyL
    rw [show py (prD p) = some (prP p) from rfl, pyL_pr r]; rfl
theorem srt_pr (acc : List (Nat × Nat)) : Srtb (acc.map prP) ∧ PyData.hasDictAll (acc.map prP) = false := by
  refine ⟨⟨fun d hd e he => ?_, .inl fun d hd => ?_, fun d hd => ?_⟩, ?_⟩
  · obtain ⟨A, _, rfl⟩ := List.mem_map.mp hd
    obtain ⟨B, _, rfl⟩ := List.mem_map.mp he
    rfl
  · obtain ⟨A, hA, rfl⟩ := List.mem_map.mp hd
    exact ⟨_, _, rfl⟩
  · obtain ⟨A, _, rfl⟩ := List.mem_map.mp hd
    show PyData.depth (prP A) ≤ 60
    exact (show (1 : Nat) ≤ 60 by decide)
  · induction acc with
    | nil => rfl
    | cons A As ih =>
      rw [List.map_cons]
      unfold PyData.hasDictAll
      rw [ih]
      rfl
theorem sortP_pr (acc : List (Nat × Nat)) : sortP [.lst (acc.map prD)] = some (.lst ((acc.map prD).mergeSort leP)) := by
  unfold sortP
  simp only [pyL_pr]
  rw [if_pos (srt_pr acc)]
theorem leP_pr {p q : Nat × Nat} (h : q.1 < p.1) : leP (prD p) (prD q) = false := by
  show (!PyProof.Rows.lexLt PyProof.Rows.itemOrd (PySem.W.keyToks (prP q)) (PySem.W.keyToks (prP p))) = false
  have e : ∀ r : Nat × Nat, PySem.W.keyToks (prP r) = [.inl 1, .inl (r.1 : Nat), .inl 1, .inl (r.2 : Nat), .inl 0] := fun r => rfl
  rw [e, e, PyProof.Rows.lex_cons, PyProof.Rows.lex_cons]
  show (!(decide ((1 : Int) < 1) || (!decide ((1 : Int) < 1) && (decide ((q.1 : Int) < (p.1 : Int)) || _)))) = false
  rw [decide_eq_true (show (q.1 : Int) < (p.1 : Int) by omega)]
  simp
theorem perm_map_aux {α β : Type} {f : α → β} {ys ws : List β} (h : ys.Perm ws) : ∀ xs : List α, ws = xs.map f → ∃ zs : List α, zs.Perm xs ∧ ys = zs.map f := by
  induction h with
  | nil => exact fun xs e => ⟨xs, .refl _, e⟩
  | cons x h ih =>
    intro xs e
    cases xs with
    | nil => cases e
    | cons b xs =>
      injection e with e1 e2
      obtain ⟨zs, z1, z2⟩ := ih xs e2
      exact ⟨b :: zs, z1.cons b, by rw [List.map_cons, ← z2, e1]⟩
  | swap x y l =>
    intro xs e
    cases xs with
    | nil => cases e
    | cons b xs =>
      cases xs with
      | nil => simp at e
      | cons c xs =>
        injection e with e1 e2
        injection e2 with e2 e3
        exact ⟨c :: b :: xs, .swap b c xs, by rw [List.map_cons, List.map_cons, ← e1, ← e2, ← e3]⟩
  | trans h1 h2 ih1 ih2 =>
    intro xs e
    obtain ⟨zs, z1, z2⟩ := ih2 xs e
    obtain ⟨us, u1, u2⟩ := ih1 zs z2
    exact ⟨us, u1.trans z1, u2⟩
theorem pw_ne {α : Type} {R : α → α → Prop} {f : α → Nat} : ∀ {xs : List α}, xs.Pairwise R → (xs.map f).Nodup → xs.Pairwise fun a b => R a b ∧ f a ≠ f b
  | [], _, _ => .nil
  | x :: xs, h, nd => by
    rw [List.pairwise_cons] at h
    rw [List.map_cons, List.nodup_cons] at nd
    refine List.pairwise_cons.mpr ⟨fun y hy => ⟨h.1 y hy, fun e => nd.1 (e ▸ List.mem_map_of_mem hy)⟩, pw_ne h.2 nd.2⟩
/-- pairs with different first items, sorted -/
theorem sorted_pr {acc : List (Nat × Nat)} (nd : (acc.map Prod.fst).Nodup) : ∃ bcc : List (Nat × Nat), bcc.Perm acc ∧ sortP [.lst (acc.map prD)] = some (.lst (bcc.map prD)) ∧ (bcc.map Prod.fst).Pairwise (· < ·) := by
  have T := PySem.W.sortLe_total (PyProof.Rows.listOrd PyProof.Rows.itemOrd) false fun b : D => PySem.W.keyToks (pyG b)
  have hpw := List.pairwise_mergeSort (le := leP) (fun a b c => T.trans a b c) (fun a b => by
    have := T.total a b
    rw [Bool.or_eq_true]
    exact this) (acc.map prD)
  obtain ⟨bcc, h1, h2⟩ := perm_map_aux (List.mergeSort_perm (acc.map prD) leP) acc rfl
  refine ⟨bcc, h1, by rw [sortP_pr, h2], ?_⟩
  rw [h2] at hpw
  have nd2 : (bcc.map Prod.fst).Nodup := (h1.map Prod.fst).nodup_iff.mpr nd
  rw [List.pairwise_map] at hpw ⊢
  refine (pw_ne hpw nd2).imp fun {p q} ⟨e, ne⟩ => ?_
  refine Classical.byContradiction fun c => ?_
  rw [leP_pr (by omega)] at e
  exact absurd e (by decide)
theorem lkp_mem : ∀ {acc : List (Nat × Nat)}, (acc.map Prod.fst).Nodup → ∀ p ∈ acc, lkp acc p.1 = p.2
  | (c, l) :: r, nd, p, hp => by
    show (if c = p.1 then l else lkp r p.1) = _
    rw [List.map_cons, List.nodup_cons] at nd
    rcases List.mem_cons.mp hp with rfl | hp
    · rw [if_pos rfl]
    · have hne : ¬ c = p.1 := fun e => nd.1 (List.mem_map.mpr ⟨p, hp, e.symm⟩)
      rw [if_neg hne, lkp_mem nd.2 p hp]
theorem snd_lkp {acc bcc : List (Nat × Nat)} (nd : (acc.map Prod.fst).Nodup) (h : ∀ p ∈ bcc, p ∈ acc) : bcc.map Prod.snd = (bcc.map Prod.fst).map (lkp acc) := by
  rw [List.map_map]
  exact List.map_congr_left fun p hp => (lkp_mem nd p (h p hp)).symm
/-! what the words say -/
structure Acc (n : Nat) (acc : List (Nat × Nat)) : Prop where
  len : acc.length = n
  le : n ≤ 6
  nd : (acc.map Prod.fst).Nodup
  bd : ∀ p ∈ acc, p.1 ≤ 5 ∧ 1 ≤ p.2 ∧ p.2 ≤ 10 ^ 12
theorem Acc.go {n b l : Nat} {acc : List (Nat × Nat)} {w : Str} (h : Acc n acc) (hb : blkW w = some (b, l)) (c : ¬ (b ∈ acc.map Prod.fst ∨ 6 ≤ n)) : Acc (n + 1) (acc ++ [(b, l)]) := by
  refine ⟨by simp [h.len], by omega, ?_, fun p hp => ?_⟩
  · rw [List.map_append, List.nodup_append]
    refine ⟨h.nd, by simp, fun x hx y hy e => ?_⟩
    simp at hy
    subst e
    subst hy
    exact c (.inl hx)
  · rcases List.mem_append.mp hp with hp | hp
    · exact h.bd p hp
    · rw [List.mem_singleton.mp hp]
      exact blkW_b hb
theorem pxW_inr : ∀ {ws : List Str} {n : Nat} {acc bcc : List (Nat × Nat)}, Acc n acc → pxW n acc ws = .inr bcc → Acc (n + ws.length) bcc
  | [], n, acc, bcc, h, e => by cases e; exact h
  | w :: ws, n, acc, bcc, h, e => by
    cases hb : blkW w with
    | none => rw [pxW_non hb] at e; cases e
    | some p =>
      obtain ⟨b, l⟩ := p
      by_cases c : b ∈ acc.map Prod.fst ∨ 6 ≤ n
      · rw [pxW_bad hb c] at e; cases e
      · rw [pxW_go hb c] at e
        have := pxW_inr (h.go hb c) e
        rw [List.length_cons]
        rw [show n + (ws.length + 1) = n + 1 + ws.length by omega]
        exact this
theorem pxW_inl : ∀ {ws : List Str} {n k : Nat} {acc : List (Nat × Nat)}, n ≤ 6 → pxW n acc ws = .inl k → k ≤ 6
  | [], n, k, acc, h, e => by cases e
  | w :: ws, n, k, acc, h, e => by
    cases hb : blkW w with
    | none => rw [pxW_non hb] at e; cases e; exact h
    | some p =>
      obtain ⟨b, l⟩ := p
      by_cases c : b ∈ acc.map Prod.fst ∨ 6 ≤ n
      · rw [pxW_bad hb c] at e; cases e; exact h
      · rw [pxW_go hb c] at e
        exact pxW_inl (by omega) e
section
variable {j : Nat} {P : D → Nat → Prop} {E : Ex → Nat → Prop}
def lxR : Sum Nat (List Nat × List Nat) → D
  | .inl n => .lst [.int (n : Nat)]
  | .inr p => exD p.1 p.2
theorem keys_pr {J : Type} {j : J} {wm : Sd} {P : List D → J → Prop} {acc : List (Nat × Nat)} {γ : Gv} {f : Ev J} [MoE f] {g : Nat × Nat → Nat} (hs : ∀ p ∈ acc, ∃ m1, γ (prD p) wm = some m1 ∧ f m1 j (fun y j2 => y = .int (g p : Nat) ∧ j2 = j) xNo) (hd : P (dN (acc.map g)) j) : WC wm γ tYesD f (acc.map prD) j P := by
  refine wC_map (c := prD) (fun p => .int (g p : Nat)) hs ?_
  have : (acc.map fun p => D.int (g p : Nat)) = dN (acc.map g) := by unfold dN; rw [List.map_map]; rfl
  rw [this]
  exact hd
theorem w_lexch {x : Str} (hx : x.length + 2 ≤ LINE) (q : P (lxR (pxR x)) j) : WF F_exchange_of [.str x] j P E := by
  refine a_run rfl ?_
  show f_exchange_of [some (.str x), none, none, none, none, none, none, none, none, none] j _ _
  obtain ⟨s1, s2, s3⟩ := split_ok (x := x) (y := Str.ofString " ") (s := 32) (by decide) (by decide +kernel)
  have es := split_d (x := x) (y := Str.ofString " ") hx (by decide)
  have hL := LN
  unfold pxR at q
  generalize hws : Txt.split x (Str.ofString " ") = ws at *
  simp only [f_exchange_of]
  refine wSeq (fun fl m j1 => fl = .next ∧ j1 = j ∧ m = [some (.str x), some (.lst []), some (.lst (ws.map D.str)), none, none, none, none, none, none, none]) (by simp [es]) ?_
  rintro fl m j1 ⟨rfl, rfl, rfl⟩
  simp only [thenS]
  refine wSeq (fun fl m j2 => j2 = j1 ∧ ((∃ k, pxW 0 [] ws = .inl k ∧ fl = .ret (.lst [.int (k : Nat)])) ∨ (fl = .next ∧ ∃ acc a b c, pxW 0 [] ws = .inr acc ∧ Acc ws.length acc ∧ m = [some (.str x), some (.lst (acc.map prD)), some (.lst (ws.map D.str)), a, b, c, none, none, none, none]))) ?_ ?_
  · simp
    refine wL_inv (fun k m j2 => j2 = j1 ∧ ∃ acc a b c, pxW 0 [] ws = pxW k acc (ws.drop k) ∧ Acc k acc ∧ Is m [some (.str x), some (.lst (acc.map prD)), some (.lst (ws.map D.str)), a, b, c, none, none, none, none]) ⟨rfl, [], none, none, none, rfl, ⟨rfl, by omega, .nil, by simp⟩, rfl⟩ ?_ ?_
    · rintro k d m j2 hd ⟨rfl, acc, a, b, c, g1, hA, rfl⟩
      obtain ⟨y, hy, rfl⟩ := enum_get hd
      rw [List.getElem?_map, Option.map_eq_some_iff] at hy
      obtain ⟨w, hw, rfl⟩ := hy
      have hk : k < ws.length := (List.getElem?_eq_some_iff.mp hw).1
      have hwe : ws.drop k = w :: ws.drop (k + 1) := by
        rw [List.drop_eq_getElem_cons hk, (List.getElem?_eq_some_iff.mp hw).2]
      have hwl := s1 w (List.mem_of_getElem? hw)
      rw [hwe] at g1
      simp
      refine w_lblock (by omega) ?_
      cases hb : blkW w with
      | none =>
        rw [pxW_non hb] at g1
        simp [oB, isND]
        exact ⟨by omega, k, g1, rfl⟩
      | some p =>
        obtain ⟨b1, l1⟩ := p
        have e1 : isND (oB (some (b1, l1))) .non = some (.bl false) := rfl
        have e2 : idxD (oB (some (b1, l1))) (.int 0) = some (.int (b1 : Nat)) := rfl
        have e5 : eqD (.int (k : Nat)) (.int 6) = some (.bl (decide (k = 6))) := by
          show some (D.bl (decide ((k : Int) = 6))) = _
          congr 3
          exact propext ⟨fun h => by omega, fun h => by omega⟩
        have hle := hA.le
        have hln := hA.len
        by_cases c2 : k = 6
        · rw [pxW_bad hb (.inr (by omega))] at g1
          rw [decide_eq_true c2] at e5
          simp [e1, e5]
          exact ⟨by omega, k, g1, rfl⟩
        · rw [decide_eq_false c2] at e5
          simp [e1, e2, e5]
          refine ⟨by omega, keys_pr (g := Prod.fst) (fun p hp => ⟨_, rfl, _, rfl, rfl, rfl⟩) ?_⟩
          refine ⟨_, in_lN, _, rfl, ?_⟩
          by_cases c1 : b1 ∈ acc.map Prod.fst
          · rw [pxW_bad hb (.inl c1)] at g1
            rw [if_pos (decide_eq_true c1)]
            exact ⟨_, rfl, by omega, rfl, .inl ⟨k, g1, rfl⟩⟩
          · have cc : ¬ (b1 ∈ acc.map Prod.fst ∨ 6 ≤ k) := fun h => h.elim c1 (by omega)
            rw [pxW_go hb cc] at g1
            rw [if_neg (by simpa using c1)]
            exact ⟨_, rfl, _, rfl, by rw [List.length_map]; omega, rfl, acc ++ [(b1, l1)], _, _, _, g1, hA.go hb cc, by rw [List.map_append]; rfl⟩
    · rintro m j2 ⟨rfl, acc, a, b, c, g1, hA, rfl⟩
      have e : (enumD (ws.map D.str)).length = ws.length := by
        unfold enumD
        rw [List.length_map, List.length_zipIdx, List.length_map]
      rw [e] at g1 hA
      rw [List.drop_length] at g1
      exact ⟨rfl, .inr ⟨rfl, acc, a, b, c, g1, hA, rfl⟩⟩
  rintro fl m j2 ⟨rfl, ⟨k, e, rfl⟩ | ⟨rfl, acc, a, b, c, e, hA, rfl⟩⟩
  · rw [e] at q
    simp only [thenS]
    exact q
  rw [e] at q
  have q : P (lxR (pxE acc)) j2 := q
  simp only [thenS]
  refine wSeq (fun fl m j3 => fl = .next ∧ j3 = j2 ∧ m = [some (.str x), some (.lst (acc.map prD)), some (.lst (ws.map D.str)), a, b, c, some (lN (acc.map Prod.fst)), none, none, none]) ?_ ?_
  · simp
    have := hA.le
    have := hA.len
    refine ⟨by omega, keys_pr (g := Prod.fst) (fun p hp => ⟨_, rfl, _, rfl, rfl, rfl⟩) ?_⟩
    exact ⟨rfl, rfl, rfl⟩
  rintro fl m j3 ⟨rfl, rfl, rfl⟩
  simp only [thenS]
  obtain ⟨bcc, hp, hso, hpw⟩ := sorted_pr hA.nd
  refine wSeq (fun fl m j4 => fl = .next ∧ j4 = j3 ∧ m = [some (.str x), some (.lst (acc.map prD)), some (.lst (ws.map D.str)), a, b, c, some (lN (acc.map Prod.fst)), some (lN (bcc.map Prod.snd)), none, none]) ?_ ?_
  · have := hA.le
    have := hA.len
    have := hp.length_eq
    simp [hso]
    refine ⟨by omega, keys_pr (g := Prod.snd) (fun p hp => ⟨_, rfl, _, rfl, rfl, rfl⟩) ?_⟩
    exact ⟨rfl, rfl, rfl⟩
  rintro fl m j4 ⟨rfl, rfl, rfl⟩
  simp only [thenS]
  have hle := hA.le
  have hln := hA.len
  have hbl := hp.length_eq
  have hsrt : sortD [lN (acc.map Prod.fst)] = some (lZ (isort (zN (acc.map Prod.fst)))) := by
    show sortD [.lst (dN (acc.map Prod.fst))] = _
    rw [dN_z]
    exact sort_l
  have hrg : ∀ n : Nat, D.lst (rngD 0 n) = lN (List.range n) := fun n => by rw [nrng]; rfl
  have hne : neD (lZ (isort (zN (acc.map Prod.fst)))) (.lst (rngD 0 ws.length)) = some (.bl (!decide (isort (zN (acc.map Prod.fst)) = zN (List.range acc.length)))) := by
    have : lN (List.range acc.length) = lZ (zN (List.range acc.length)) := by
      show D.lst (dN _) = _
      rw [dN_z]
    rw [hrg, ← hln, this]
    show neD (lZ _) (lZ _) = _
    rw [neD_l (by simp) (by simp) (by simp) (by simp)]
    simp
  have hlm : -LIM ≤ (ws.length : Int) ∧ (ws.length : Int) ≤ LIM := by unfold LIM; omega
  have hsu : (bcc.map Prod.snd).sum = ((acc.map Prod.fst).map (lkp acc)).sum := by
    rw [← snd_lkp hA.nd fun p h => h]
    exact (hp.map Prod.snd).sum_nat
  have hsum : sumB [lN (bcc.map Prod.snd)] = some (.int (((acc.map Prod.fst).map (lkp acc)).sum : Nat)) := by
    rw [← hsu]; exact sum_lN
  have e12 : powD (.int 10) (.int 12) = some (.int 1000000000000) := rfl
  by_cases c1 : isort (zN (acc.map Prod.fst)) = zN (List.range acc.length)
  rotate_left
  · have e : pxE acc = .inl acc.length := if_neg fun h => c1 h.1
    rw [e] at q
    rw [decide_eq_false c1] at hne
    simp [hsrt]
    refine ⟨hlm.1, hlm.2, by rw [rngD_length]; omega, _, hne, .inr ?_⟩
    rw [hln] at q
    exact ⟨rfl, by omega, q⟩
  rw [decide_eq_true c1] at hne
  by_cases c2 : ((acc.map Prod.fst).map (lkp acc)).sum ≤ 10 ^ 12
  rotate_left
  · have e : pxE acc = .inl acc.length := if_neg fun h => c2 h.2
    rw [e] at q
    have hgt : gtD (.int (((acc.map Prod.fst).map (lkp acc)).sum : Nat)) (.int 1000000000000) = some (.bl true) := by
      show some (D.bl (decide ((1000000000000 : Int) < (((acc.map Prod.fst).map (lkp acc)).sum : Nat)))) = _
      rw [decide_eq_true (by omega)]
    simp [hsrt]
    refine ⟨hlm.1, hlm.2, by rw [rngD_length]; omega, _, hne, .inl ⟨rfl, ?_⟩⟩
    rw [hln] at q
    rw [hsu]
    exact ⟨_, e12, _, hgt, .inr ⟨rfl, by omega, q⟩⟩
  have e : pxE acc = .inr ((List.range acc.length).map (lkp acc), acc.map Prod.fst) := if_pos ⟨c1, c2⟩
  rw [e] at q
  have hgt : gtD (.int (((acc.map Prod.fst).map (lkp acc)).sum : Nat)) (.int 1000000000000) = some (.bl false) := by
    show some (D.bl (decide ((1000000000000 : Int) < (((acc.map Prod.fst).map (lkp acc)).sum : Nat)))) = _
    rw [decide_eq_false (by omega)]
  have hfs : bcc.map Prod.fst = List.range acc.length := by
    have h1 : isort (zN (acc.map Prod.fst)) = zN (bcc.map Prod.fst) := (isort_unique (ns := zN (acc.map Prod.fst)) (ns' := zN (bcc.map Prod.fst)) ((hp.map Prod.fst).map _) (by
      unfold zN
      exact List.pairwise_map.mpr (hpw.imp fun {a b} h => by omega))).symm
    exact zN_inj (h1.symm.trans c1)
  have hlen : bcc.map Prod.snd = (List.range acc.length).map (lkp acc) := by rw [snd_lkp hA.nd fun p h => hp.mem_iff.mp h, hfs]
  simp [hsrt]
  refine ⟨hlm.1, hlm.2, by rw [rngD_length]; omega, _, hne, .inl ⟨rfl, ?_⟩⟩
  rw [hsu]
  refine ⟨_, e12, _, hgt, .inl ⟨rfl, by omega, ?_⟩⟩
  rw [hlen]
  exact q
end
section
variable {j : Nat} {P : D → Nat → Prop} {E : Ex → Nat → Prop}
/-- texts of at most m signs -/
def Tx (m : Nat) (d : D) : Prop := ∃ w : Str, d = .str w ∧ w.length ≤ m
def txB (m : Nat) (d : D) : Bool := match d with | .str w => decide (w.length ≤ m) | _ => false
theorem tx_of {m : Nat} {ds : List D} (h : ds.all (txB m) = true) : ∀ d ∈ ds, Tx m d := fun d hd => by
  have := List.all_eq_true.mp h d hd
  cases d with
  | str w => exact ⟨w, rfl, by simpa [txB] using this⟩
  | _ => cases this
def cutG (ts : List Str) (lo hi : Option Int) : List Str := (ts.drop (HT.sIx ts.length 0 lo)).take (HT.sIx ts.length ts.length hi - HT.sIx ts.length 0 lo)
def sumS (ts : List Str) : Nat := (ts.map fun z : Str => z.length).sum
theorem sumS_app (a b : List Str) : sumS (a ++ b) = sumS a + sumS b := by unfold sumS; rw [List.map_append, List.sum_append_nat]
theorem joinL_sum : ∀ {xs : List Str}, (TL.joinL [32] (xs.map TL.tl)).length ≤ sumS xs + xs.length
  | [] => Nat.zero_le _
  | [p] => by
    show (TL.tl p).length ≤ p.length + 1
    rw [← TL.len_tl]; omega
  | p :: q :: r => by
    have h2 := joinL_sum (xs := q :: r)
    show (TL.tl p ++ ([32] ++ TL.joinL [32] ((q :: r).map TL.tl))).length ≤ _
    have e : sumS (p :: q :: r) = p.length + sumS (q :: r) := rfl
    rw [List.length_append, List.length_append, List.length_cons, e, ← TL.len_tl]
    simp only [List.length_cons, List.length_nil] at h2 ⊢
    omega
theorem jn_sum {xs : List Str} : (jnT xs).length ≤ sumS xs + xs.length := by
  rw [TL.len_tl, tl_jn]
  exact joinL_sum
theorem join_s {xs : List Str} (h : sumS xs + xs.length ≤ LINE) : joinD (.str spT) (.lst (xs.map D.str)) = some (.str (jnT xs)) := by
  show (match strs? (xs.map D.str) with | some ys => if (ys.map fun z : Str => z.length).sum + ys.length * spT.length ≤ LINE then some (D.str (Txt.join spT ys)) else none | none => none) = _
  rw [strs?_map]
  have e2 : spT.length = 1 := by decide
  show (if sumS xs + xs.length * spT.length ≤ LINE then _ else _) = _
  rw [if_pos (by rw [e2]; omega), TL.join_eq]
  rfl
theorem w_joined {ts : List Str} (hl : sumS ts + ts.length ≤ LINE) (q : P (.str (jnT ts)) j) : WF F_joined [.lst (ts.map D.str)] j P E := by
  refine a_run rfl ?_
  show f_joined [some (.lst (ts.map D.str)), none] j _ _
  have hL := LN
  have hlen : ts.length ≤ LINE := by omega
  simp [f_joined]
  refine ⟨hlen, wC_map (c := D.str) (fun x => .str x) (fun i hi => ⟨_, rfl, ?_⟩) ?_⟩
  · simp
    rfl
  · exact ⟨_, join_s hl, q⟩
theorem mul_t {a : Str} {n : Nat} (h1 : 2 ≤ n) (h2 : 0 < a.length) (h3 : n * a.length ≤ LINE) : mulT (.str a) (.int (n : Nat)) = some (.str (repX a n)) := by
  show (if 2 ≤ (n : Int) ∧ 0 < a.length ∧ (n : Int) * a.length ≤ LINE then some (D.str (repX a (n : Int).toNat)) else none) = _
  rw [if_pos ⟨by omega, h2, by exact_mod_cast h3⟩]
  rfl
theorem w_twisted {x : Str} (hx : x.length ≤ 300) (hn : j + 5 ≤ NMAX) (q : ∀ y, y.length ≤ 900000 → P (.str y) (j + 5)) : WF F_twisted [.jar, .str x] j P E := by
  refine a_run rfl ?_
  show f_twisted [some .jar, some (.str x), none, none, none, none, none, none, none] j _ _
  obtain ⟨s1, s2, s3⟩ := split_ok (x := x) (y := Str.ofString " ") (s := 32) (by decide) (by decide +kernel)
  have hL := LN
  have es := split_d (x := x) (y := Str.ofString " ") (by omega) (by decide)
  have hM := LM
  have hN : NMAX = 1000000000 := rfl
  generalize hws : Txt.split x (Str.ofString " ") = ws at *
  have hln := len_s (x := x) (by omega)
  have h14 := mul_t (a := Str.ofString "1") (n := 14) (by decide) (by decide) (by rw [LN]; decide)
  have h25 := mul_t (a := Str.ofString "1") (n := 2500) (by decide) (by decide) (by rw [LN]; decide)
  have l14 : (repX (Str.ofString "1") 14).length = 14 := by rw [repX_len]; rfl
  have l25 : (repX (Str.ofString "1") 2500).length = 2500 := by rw [repX_len]; rfl
  simp only [f_twisted]
  refine wSeq (fun fl m j1 => fl = .next ∧ j1 = j + 1 ∧ ∃ v : Nat, m = [some .jar, some (.str x), some (.int (v : Nat)), some (.lst (ws.map D.str)), none, none, none, none, none]) ?_ ?_
  · simp [es, hln]
    refine w_draw (by omega) (by omega) (by omega) fun v hv => ?_
    simp [es]
    exact ⟨v, rfl⟩
  rintro fl m j1 ⟨rfl, rfl, v, rfl⟩
  simp only [thenS]
  refine wSeq (fun fl m j1 => fl = .next ∧ j1 = j + 3 ∧ ∃ s : Nat, ∃ g : Str, g.length ≤ 10 ∧ m = [some .jar, some (.str x), some (.int (v : Nat)), some (.lst (ws.map D.str)), some (.int (s : Nat)), some (.str g), none, none, none]) ?_ ?_
  · simp
    refine w_draw (by omega) (by omega) (by omega) fun s hs => ?_
    simp
    refine ⟨by omega, w_pick (by simp) (by simp) (by omega) fun y hy => ?_⟩
    obtain ⟨g, rfl, hg⟩ := tx_of (m := 10) (by decide +kernel) y hy
    exact ⟨rfl, rfl, s, g, hg, rfl⟩
  rintro fl m j1 ⟨rfl, rfl, s, g, hg, rfl⟩
  simp only [thenS]
  refine wSeq (fun fl m j1 => fl = .next ∧ j1 = j + 3 ∧ ∃ ts : List Str, (∀ p ∈ ts, p.length ≤ 3000) ∧ 0 < ts.length ∧ ts.length ≤ 400 ∧ m = [some .jar, some (.str x), some (.int (v : Nat)), some (.lst (ws.map D.str)), some (.int (s : Nat)), some (.str g), some (.lst (ts.map D.str)), none, none]) ?_ ?_
  · have a14 : addD (.str (Str.ofString "1:")) (.str (repX (Str.ofString "1") 14)) = some (.str (Str.ofString "1:" ++ repX (Str.ofString "1") 14)) := add_s (by rw [l14, LN]; decide)
    have a25 : addD (.str (Str.ofString "2:")) (.str (repX (Str.ofString "1") 2500)) = some (.str (Str.ofString "2:" ++ repX (Str.ofString "1") 2500)) := add_s (by rw [l25, LN]; decide)
    have h14' : mulT (.str (Str.ofString "1")) (.int 14) = _ := h14
    have h25' : mulT (.str (Str.ofString "1")) (.int 2500) = _ := h25
    simp [h14', h25', a14, a25]
    refine ⟨by omega, _, add_l (by simp; omega), ws ++ [Str.ofString "", Str.ofString "00:1", Str.ofString "0:01", Str.ofString "6:1", Str.ofString "0:0", Str.ofString "1:" ++ repX (Str.ofString "1") 14, Str.ofString "2:" ++ repX (Str.ofString "1") 2500, Str.ofString "-0:1", Str.ofString "0", Str.ofString ":"], fun p hp => ?_, by simp, by simp; omega, by simp⟩
    rcases List.mem_append.mp hp with hp | hp
    · have := s1 p hp; omega
    · simp only [List.mem_cons, List.not_mem_nil, or_false] at hp
      rcases hp with rfl | rfl | rfl | rfl | rfl | rfl | rfl | rfl | rfl | rfl <;> first | (rw [slen, l14]; decide) | (rw [slen, l25]; decide) | decide
  rintro fl m j1 ⟨rfl, rfl, ts, ht1, ht2, ht3, rfl⟩
  simp only [thenS]
  refine wSeq (fun fl m j1 => fl = .next ∧ j1 = j + 4 ∧ ∃ u : Str, u.length ≤ 3000 ∧ m = [some .jar, some (.str x), some (.int (v : Nat)), some (.lst (ws.map D.str)), some (.int (s : Nat)), some (.str g), some (.lst (ts.map D.str)), some (.str u), none]) ?_ ?_
  · simp
    refine ⟨by omega, _, add_l (by simp; omega), ?_⟩
    refine w_pick (by simp) (by simp; omega) (by omega) fun y hy => ?_
    have : Tx 3000 y := by
      rcases List.mem_append.mp hy with hy | hy
      · obtain ⟨w, hw, rfl⟩ := List.mem_map.mp hy
        exact ⟨w, rfl, ht1 w hw⟩
      · exact tx_of (m := 3000) (by decide +kernel) y hy
    obtain ⟨u, rfl, hu⟩ := this
    exact ⟨rfl, rfl, u, hu, rfl⟩
  rintro fl m j1 ⟨rfl, rfl, u, hu, rfl⟩
  simp only [thenS]
  have h1s : (Str.ofString " ").length = 1 := by decide
  have sl : ∀ a b, sliceD (.str x) a b = some (.str (cutS x a b)) := fun a b => slice_s (by omega)
  have sll : ∀ a b, (cutS x a b).length ≤ 300 := fun a b => Nat.le_trans (cutS_length x a b) hx
  refine wSeq (fun fl m j1 => fl = .next ∧ j1 = j + 4 ∧ ∃ rs : List Str, (∀ p ∈ rs, p.length ≤ 900000) ∧ rs.length = 4 ∧ m = [some .jar, some (.str x), some (.int (v : Nat)), some (.lst (ws.map D.str)), some (.int (s : Nat)), some (.str g), some (.lst (ts.map D.str)), some (.str u), some (.lst (rs.map D.str))]) ?_ ?_
  · have a1 : addD (.str (cutS x none (some (v : Nat)))) (.str g) = some (.str (cutS x none (some (v : Nat)) ++ g)) := add_s (by have := sll none (some (v : Nat)); omega)
    have a2 : addD (.str (cutS x none (some (v : Nat)) ++ g)) (.str (cutS x (some (v : Nat)) none)) = some (.str (cutS x none (some (v : Nat)) ++ g ++ cutS x (some (v : Nat)) none)) := add_s (by have := sll none (some (v : Nat)); have := sll (some (v : Nat)) none; rw [slen]; omega)
    have a3 : addD (.str (cutS x none (some (v : Nat)) ++ g)) (.str (cutS x (some ((v : Nat) + 1)) none)) = some (.str (cutS x none (some (v : Nat)) ++ g ++ cutS x (some ((v : Nat) + 1)) none)) := add_s (by have := sll none (some (v : Nat)); have := sll (some ((v : Nat) + 1)) none; rw [slen]; omega)
    have a4 : addD (.str (cutS x none (some (v : Nat)))) (.str (cutS x (some ((v : Nat) + 1)) none)) = some (.str (cutS x none (some (v : Nat)) ++ cutS x (some ((v : Nat) + 1)) none)) := add_s (by have := sll none (some (v : Nat)); have := sll (some ((v : Nat) + 1)) none; omega)
    have a5 : addD (.str x) (.str (Str.ofString " ")) = some (.str (x ++ Str.ofString " ")) := add_s (by rw [h1s]; omega)
    simp [sl, a1, a2, a3, a4, a5]
    refine ⟨by omega, [_, _, _, _], fun p hp => ?_, rfl, rfl⟩
    have h1 := sll none (some (v : Nat))
    have h2 := sll (some (v : Nat)) none
    have h3 := sll (some ((v : Nat) + 1)) none
    have h4 : (Str.ofString " ").length = 1 := by decide
    simp only [List.mem_cons, List.not_mem_nil, or_false] at hp
    rcases hp with rfl | rfl | rfl | rfl
    · rw [slen, slen]; omega
    · rw [slen, slen]; omega
    · rw [slen]; omega
    · rw [slen]; omega
  rintro fl m j1 ⟨rfl, rfl, rs, hr1, hr2, rfl⟩
  simp only [thenS]
  have hws3 : ∀ p ∈ ws, p.length ≤ 300 := fun p hp => Nat.le_trans (s1 p hp) hx
  have hcs : ∀ A : List Str, (∀ p ∈ A, p ∈ ws) → A.length ≤ ws.length → sumS A ≤ 300 * 301 ∧ A.length ≤ 301 := fun A h h1 => by
    have h2 := lsum_le (xs := A) (m := 300) fun p hp => hws3 p (h p hp)
    have h3 : sumS A ≤ 300 * A.length := h2
    omega
  have hjs : ∀ a b : Nat, sumS (ws.take a ++ [u] ++ ws.drop b) + (ws.take a ++ [u] ++ ws.drop b).length ≤ 190000 := fun a b => by
    have h1 := hcs (ws.take a) (fun p => List.mem_of_mem_take) (by rw [List.length_take]; omega)
    have h2 := hcs (ws.drop b) (fun p => List.mem_of_mem_drop) (by rw [List.length_drop]; omega)
    rw [sumS_app, sumS_app, List.length_append, List.length_append, List.length_singleton]
    have : sumS [u] = u.length := by unfold sumS; simp
    omega
  have hz : ∀ a b : Nat, addD (.lst ((ws.map D.str).take a)) (.lst [.str u]) = some (.lst ((ws.take a ++ [u]).map D.str)) ∧ addD (.lst ((ws.take a ++ [u]).map D.str)) (.lst ((ws.map D.str).drop b)) = some (.lst ((ws.take a ++ [u] ++ ws.drop b).map D.str)) := fun a b => by
    have h1 : (ws.take a).length ≤ ws.length := by rw [List.length_take]; omega
    have h2 : (ws.drop b).length ≤ ws.length := by rw [List.length_drop]; omega
    refine ⟨?_, ?_⟩
    · rw [← List.map_take, show [D.str u] = [u].map D.str from rfl, add_l (by rw [List.length_map, List.length_map, List.length_singleton]; omega), List.map_append]
    · rw [← List.map_drop, add_l (by rw [List.length_map, List.length_map, List.length_append, List.length_singleton]; omega), ← List.map_append]
  have hjw : ∀ (a b : Nat) (Q : D → Nat → Prop), (∀ w : Str, w.length ≤ 190000 → Q (.str w) (j + 4)) → WF F_joined [.lst ((ws.take a ++ [u] ++ ws.drop b).map D.str)] (j + 4) Q E := fun a b Q h => by
    have := hjs a b
    refine w_joined (by omega) (h _ (Nat.le_trans jn_sum this))
  refine wSeq (fun fl m j1 => fl = .next ∧ j1 = j + 4 ∧ ∃ rs : List Str, (∀ p ∈ rs, p.length ≤ 900000) ∧ rs.length = 5 ∧ m = [some .jar, some (.str x), some (.int (v : Nat)), some (.lst (ws.map D.str)), some (.int (s : Nat)), some (.str g), some (.lst (ts.map D.str)), some (.str u), some (.lst (rs.map D.str))]) ?_ ?_
  · simp
    refine ⟨by omega, _, (hz s s).1, _, (hz s s).2, hjw s s _ fun w hw => ?_⟩
    refine ⟨by rw [List.length_map]; omega, rfl, rfl, rs ++ [w], fun p hp => ?_, by simp [hr2], by simp⟩
    rcases List.mem_append.mp hp with hp | hp
    · exact hr1 p hp
    · rw [List.mem_singleton.mp hp]; omega
  rintro fl m j1 ⟨rfl, rfl, rs, hr1, hr2, rfl⟩
  simp only [thenS]
  refine wSeq (fun fl m j1 => fl = .next ∧ j1 = j + 4 ∧ ∃ rs : List Str, (∀ p ∈ rs, p.length ≤ 900000) ∧ rs.length = 6 ∧ m = [some .jar, some (.str x), some (.int (v : Nat)), some (.lst (ws.map D.str)), some (.int (s : Nat)), some (.str g), some (.lst (ts.map D.str)), some (.str u), some (.lst (rs.map D.str))]) ?_ ?_
  · have hcd : cutD (ws.map D.str) (some ((s : Int) + 1)) none = (ws.map D.str).drop (s + 1) := cut_drop (k := s + 1)
    simp [hcd, - List.map_drop]
    refine ⟨by omega, _, (hz s (s + 1)).1, _, (hz s (s + 1)).2, hjw s (s + 1) _ fun w hw => ?_⟩
    refine ⟨by rw [List.length_map]; omega, rfl, rfl, rs ++ [w], fun p hp => ?_, by simp [hr2], by simp⟩
    rcases List.mem_append.mp hp with hp | hp
    · exact hr1 p hp
    · rw [List.mem_singleton.mp hp]; omega
  rintro fl m j1 ⟨rfl, rfl, rs, hr1, hr2, rfl⟩
  simp only [thenS]
  simp
  have hrv : sumS ws.reverse + ws.reverse.length ≤ 91000 := by
    have := hcs ws.reverse (fun p => List.mem_reverse.mp) (by rw [List.length_reverse]; omega)
    omega
  rw [← List.map_reverse]
  refine w_joined (by omega) ?_
  have hjr := Nat.le_trans (jn_sum (xs := ws.reverse)) hrv
  refine ⟨_, rfl, _, add_s (by omega), _, rfl, _, add_s (by rw [slen]; omega), by omega, _, add_l (by simp; omega), ?_⟩
  refine w_pick (by simp) (by simp; omega) (by omega) fun y hy => ?_
  rcases List.mem_append.mp hy with hy | hy
  · obtain ⟨w, hw, rfl⟩ := List.mem_map.mp hy
    exact q w (hr1 w hw)
  · simp only [List.mem_cons, List.not_mem_nil, or_false] at hy
    rcases hy with rfl | rfl
    · exact q _ (by omega)
    · exact q _ (by rw [slen, slen]; omega)
end
section
variable {j : Nat} {P : D → Nat → Prop} {E : Ex → Nat → Prop}
def inR2 : Option Int → D
  | some i => .int i
  | none => .lst [.int 0]
theorem w_found0 {x : Str} (hx : x.length + 2 ≤ LINE) (q : P (lxR (pxR x)) j) : WF F_found [.int 0, .str x] j P E := by
  refine a_run rfl ?_
  show f_found [some (.int 0), some (.str x), none, none, none] j _ _
  have hL := LN
  simp [f_found]
  refine w_parse hx ?_
  cases e : pxR x with
  | inl n =>
    rw [e] at q
    simp [tT, xfT]
    exact ⟨by omega, q⟩
  | inr p =>
    rw [e] at q
    simp
    exact q
theorem w_found1 {x : Str} (hx : x.length ≤ LINE) (q : P (inR2 (rdI x)) j) : WF F_found [.int 1, .str x] j P E := by
  refine a_run rfl ?_
  show f_found [some (.int 1), some (.str x), none, none, none] j _ _
  have hL := LN
  simp [f_found]
  refine w_parse_integer hx ?_
  cases e : rdI x with
  | none =>
    rw [e] at q
    simp [tT, xfT]
    exact ⟨by omega, q⟩
  | some i =>
    rw [e] at q
    simp
    exact q
theorem w_foundN {w : Nat} {v : D} (hw : w < 2) (hv : isiD "str" v = some (.bl false)) (q : P (.lst [.non]) j) : WF F_found [.int (w : Nat), v] j P E := by
  refine a_run rfl ?_
  show f_found [some (.int (w : Nat)), some v, none, none, none] j _ _
  have hL := LN
  have h1 : WF F_p_parse_exchange [v] j (fun _ _ => False) (fun e j' => e = ⟨2, some .non⟩ ∧ j' = j) := by
    refine a_run rfl ?_
    show f_p_parse_exchange [some v, none, none, none, none, none, none] j _ _
    simp [f_p_parse_exchange, hv]
  have h2 : WF F_p_parse_integer [v] j (fun _ _ => False) (fun e j' => e = ⟨2, some .non⟩ ∧ j' = j) := by
    refine a_run rfl ?_
    show f_p_parse_integer [some v, none] j _ _
    simp [f_p_parse_integer, hv]
  simp [f_found]
  have hw2 : w = 0 ∨ w = 1 := by omega
  rcases hw2 with rfl | rfl
  · simp
    refine WF.mo h1 (fun _ _ h => h.elim) fun e j' he => ?_
    obtain ⟨rfl, rfl⟩ := he
    simp [tT, xfT]
    exact ⟨by omega, q⟩
  · simp
    refine WF.mo h2 (fun _ _ h => h.elim) fun e j' he => ?_
    obtain ⟨rfl, rfl⟩ := he
    simp [tT, xfT]
    exact ⟨by omega, q⟩
end
theorem dig_fold : ∀ (cs : List Nat) (a : Nat), NumText.AllDigits cs → cs.foldl (fun acc c => acc * 10 + (c - 48)) a < (a + 1) * 10 ^ cs.length
  | [], a, _ => by simp
  | c :: cs, a, h => by
    have hc := h c List.mem_cons_self
    have := dig_fold cs (a * 10 + (c - 48)) fun d hd => h d (List.mem_cons_of_mem _ hd)
    rw [List.foldl_cons, List.length_cons, Nat.pow_succ]
    refine Nat.lt_of_lt_of_le this ?_
    rw [Nat.mul_comm (10 ^ cs.length) 10, ← Nat.mul_assoc]
    exact Nat.mul_le_mul_right _ (by omega)
theorem rd_bound {x : Str} {i : Int} (h : rdI x = some i) : -(10 ^ 20) < i ∧ i < 10 ^ 20 := by
  unfold rdI at h
  by_cases c : okW (TL.tl x) = true
  · rw [rdL_ok c] at h
    cases h
    obtain ⟨h1, h2, h3, h4⟩ := okW_iff.mp c
    have hd := dig_fold (dgs (TL.tl x)) 0 (dg_all.mp h3)
    have hp : 10 ^ (dgs (TL.tl x)).length ≤ 10 ^ 20 := Nat.pow_le_pow_right (by decide) h2
    have : NumText.digitsVal (dgs (TL.tl x)) < 10 ^ 20 := by
      unfold NumText.digitsVal
      omega
    unfold vaW
    split <;> omega
  · rw [rdL_no c] at h
    cases h
theorem rp_tN' {L : List Nat} (h : ∀ x ∈ L, x ≤ 10 ^ 18) (hl : L.length ≤ 8) : RP 4 2000 (tN L) := (rp_tup (k := 3) (n := 200) (xs := dN L) fun z hz => by
  obtain ⟨y, hy, rfl⟩ := List.mem_map.mp hz
  have := h y hy
  exact rp_int (by omega)).mono (by omega) (by rw [dN_len]; omega)
theorem lkp_le {b m : Nat} : ∀ {acc : List (Nat × Nat)}, (∀ p ∈ acc, p.2 ≤ m) → lkp acc b ≤ m
  | [], _ => Nat.zero_le _
  | (c, l) :: r, h => by
    show (if c = b then l else lkp r b) ≤ m
    split
    · exact h _ List.mem_cons_self
    · exact lkp_le fun p hp => h p (List.mem_cons_of_mem _ hp)
theorem rp_1 {n : Nat} (h : n ≤ 6) : RP 6 6000 (.lst [.int (n : Nat)]) := (rp_lst (k := 3) (n := 200) (xs := [.int (n : Nat)]) fun z hz => by
  rw [List.mem_singleton.mp hz]
  exact rp_int (by omega)).mono (by omega) (by simp)
theorem px_rp (x : Str) : RP 6 6000 (lxR (pxR x)) := by
  unfold pxR
  cases e : pxW 0 [] (Txt.split x (Str.ofString " ")) with
  | inl n => exact rp_1 (pxW_inl (by omega) e)
  | inr acc =>
    have hA := pxW_inr (n := 0) (acc := []) ⟨rfl, by omega, .nil, by simp⟩ e
    have hle := hA.le
    have hln := hA.len
    show RP 6 6000 (lxR (pxE acc))
    unfold pxE
    split
    · have h1 : RP 4 2000 (tN ((List.range acc.length).map (lkp acc))) := rp_tN' (fun y hy => by
        obtain ⟨b, _, rfl⟩ := List.mem_map.mp hy
        exact lkp_le fun p hp => by have := hA.bd p hp; omega) (by simp; omega)
      have h2 : RP 4 2000 (tN (acc.map Prod.fst)) := rp_tN' (fun y hy => by
        obtain ⟨p, hp, rfl⟩ := List.mem_map.mp hy
        have := hA.bd p hp; omega) (by simp; omega)
      exact (rp_tup (k := 4) (n := 2000) (xs := [_, _]) fun z hz => by
        simp only [List.mem_cons, List.not_mem_nil, or_false] at hz
        rcases hz with rfl | rfl
        · exact h1
        · exact h2).mono (by omega) (by simp)
    · exact rp_1 (by omega)
theorem rd_rp (x : Str) : RP 6 6000 (inR2 (rdI x)) := by
  cases e : rdI x with
  | none => exact rp_1 (n := 0) (by omega)
  | some i =>
    have := rd_bound e
    exact (rp_int (by omega)).mono (by omega) (by omega)
theorem rep_two (x : Str) : ∃ y, reprB [.lst [lxR (pxR x), inR2 (rdI x)]] = some (.str y) :=
  (rp_lst (k := 6) (n := 6000) (xs := [lxR (pxR x), inR2 (rdI x)]) fun z hz => by
    simp only [List.mem_cons, List.not_mem_nil, or_false] at hz
    rcases hz with rfl | rfl
    · exact px_rp x
    · exact rd_rp x).rep (by omega) (by rw [LN]; simp)
theorem rep_00 : reprB [.lst [.lst [.non], .lst [.non]]] = some (.str (Str.ofString "[[None], [None]]")) := by
  have e : py (.lst [.lst [.non], .lst [.non]]) = some (.list [.list [.none], .list [.none]]) := rfl
  have e1 : (PyData.list [.list [.none], .list [.none]]).showable = true := rfl
  have e2 : (PyData.list [.list [.none], .list [.none]]).depth ≤ 60 := by decide
  have e3 : (PyData.list [.list [.none], .list [.none]]).shown = Str.ofString "[[None], [None]]" := by decide +kernel
  have e4 : (PyData.list [.list [.none], .list [.none]]).shown.length ≤ LINE := by rw [e3, LN]; decide
  have e5 : reprD (.lst [.lst [.non], .lst [.non]]) = some (Str.ofString "[[None], [None]]") := by
    unfold reprD
    rw [e]
    simp only [e1, e2, e4, decide_true, Bool.and_self, if_true]
    rw [e3]
  show (match reprD (.lst [.lst [.non], .lst [.non]]) with | some x => some (D.str x) | none => none) = _
  rw [e5]
theorem neS {y : Str} : neD (.str y) (.str y) = some (.bl false) := by simp
section
variable {L O : List Nat}
theorem sum_wide {m n : Nat} (hn : 0 < n) : ∀ {A : List Nat}, (∀ x ∈ A, x * n ≤ m) → A.sum * n ≤ m * A.length
  | [], _ => by simp
  | a :: A, h => by
    have h1 := h a List.mem_cons_self
    have h2 := sum_wide hn (A := A) fun x hx => h x (List.mem_cons_of_mem _ hx)
    rw [List.sum_cons, List.length_cons, Nat.mul_add, Nat.add_mul]
    omega
theorem IsX.sum_le (h : IsX L O) {m : Nat} (hb : ∀ x ∈ L, x * O.length ≤ m) : L.sum ≤ m := by
  have h1 := sum_wide h.ne hb
  rw [h.len] at h1
  exact Nat.le_of_mul_le_mul_right h1 h.ne
end
theorem law_holds : ∀ j : Nat, Few j → f_law (Mp.m0 N_law.length) j (fun l _ _ => l = .ret (.bl true)) xNo := by
  intro j hj
  have hj : j ≤ 1000000 := hj
  show f_law [none, some .jar, none, none, none, none, none, none, none, none, none, none, none, none, none] j _ _
  have hL := LN
  have hM := LM
  have hN : NMAX = 1000000000 := rfl
  have e12 : powD (.int 10) (.int 12) = some (.int 1000000000000) := rfl
  have m1 : ∀ n : Nat, 2 ≤ n → n ≤ 3000 → mulT (.str (Str.ofString "1")) (.int (n : Nat)) = some (.str (repX (Str.ofString "1") n)) := fun n h1 h2 => mul_t h1 (by decide) (by rw [show (Str.ofString "1").length = 1 from rfl]; omega)
  have m9 : mulT (.str (Str.ofString "9")) (.int 20) = some (.str (repX (Str.ofString "9") 20)) := mul_t (n := 20) (by decide) (by decide) (by rw [LN]; decide)
  have lx : ∀ n : Nat, (repX (Str.ofString "1") n).length = n := fun n => by rw [repX_len]; show n * 1 = n; omega
  have l9 : (repX (Str.ofString "9") 20).length = 20 := by rw [repX_len]; rfl
  simp only [f_law]
  refine wSeq (fun fl m j1 => fl = .next ∧ j1 = j ∧ ∃ ts : List Str, (∀ p ∈ ts, p.length ≤ 3000) ∧ ts.length = 10 ∧ m = [none, some .jar, some (.lst (ts.map D.str)), none, none, none, none, none, none, none, none, none, none, none, none]) ?_ ?_
  · have m20 : mulT (.str (Str.ofString "1")) (.int 20) = _ := m1 20 (by decide) (by decide)
    have m21 : mulT (.str (Str.ofString "1")) (.int 21) = _ := m1 21 (by decide) (by decide)
    have m25 : mulT (.str (Str.ofString "1")) (.int 2500) = _ := m1 2500 (by decide) (by decide)
    have a9 : addD (.str (Str.ofString "-")) (.str (repX (Str.ofString "9") 20)) = _ := add_s (by rw [l9, LN]; decide)
    have a1 : addD (.str (Str.ofString "-")) (.str (repX (Str.ofString "1") 21)) = _ := add_s (by rw [lx, LN]; decide)
    simp [m20, m21, m25, m9, a9, a1]
    refine ⟨by omega, [Str.ofString "0", Str.ofString "-0", Str.ofString "00", Str.ofString "-1", Str.ofString "+1", repX (Str.ofString "1") 20, repX (Str.ofString "1") 21, Str.ofString "-" ++ repX (Str.ofString "9") 20, Str.ofString "-" ++ repX (Str.ofString "1") 21, repX (Str.ofString "1") 2500], fun p hp => ?_, rfl, rfl⟩
    simp only [List.mem_cons, List.not_mem_nil, or_false] at hp
    rcases hp with rfl | rfl | rfl | rfl | rfl | rfl | rfl | rfl | rfl | rfl <;> first | (rw [slen, l9]; decide) | (rw [slen, lx]; decide) | (rw [lx]; decide) | decide
  rintro fl m j1 ⟨rfl, rfl, ts, ht1, ht2, rfl⟩
  simp only [thenS]
  refine wSeq (fun fl m j2 => fl = .next ∧ j2 = j1 ∧ ∃ ns : List Str, (∀ p ∈ ns, p.length ≤ 3000) ∧ ns.length = 13 ∧ m = [none, some .jar, some (.lst (ns.map D.str)), none, none, none, none, none, none, none, none, none, none, none, none]) ?_ ?_
  · simp
    refine ⟨by omega, _, add_l (by simp; omega), ts ++ [Str.ofString "", Str.ofString "-", Str.ofString "1 "], fun p hp => ?_, by simp [ht2], by simp⟩
    rcases List.mem_append.mp hp with hp | hp
    · exact ht1 p hp
    · simp only [List.mem_cons, List.not_mem_nil, or_false] at hp
      rcases hp with rfl | rfl | rfl <;> decide
  rintro fl m j2 ⟨rfl, rfl, ns, hn1, hn2, rfl⟩
  simp only [thenS]
  clear ht1 ht2 ts
  refine wSeq (fun fl m j3 => fl = .next) ?_ ?_
  rotate_left
  · rintro fl m j3 rfl
    simp only [thenS]
    simp
  simp
  refine ⟨by omega, by omega, ?_⟩
  refine wL_inv (fun k m j' => j' ≤ j2 + 200 * k ∧ ∃ a b c d e f g h l o p q, Is m [none, some .jar, some (.lst (ns.map D.str)), a, b, c, d, e, f, g, h, l, o, p, q]) ⟨by omega, _, _, _, _, _, _, _, _, _, _, _, _, rfl⟩ ?_ (by intros; rfl)
  rintro k dd m j1 hd ⟨hj1, a, b, c, d, e, f, g, h, l, o, p, q, rfl⟩
  have hk6 : k < 3 := by
    have := (List.getElem?_eq_some_iff.mp hd).1
    rwa [rngD_length] at this
  refine ⟨_, rfl, ?_⟩
  refine wSeq (fun fl m j2 => fl = .next ∧ j2 ≤ j1 + 21 ∧ ∃ L O, IsX L O ∧ O.length ≤ 6 ∧ L.sum ≤ 10 ^ 12 ∧ m = [none, some .jar, some (.lst (ns.map D.str)), some dd, some (exD L O), c, d, e, f, g, h, l, o, p, q]) ?_ ?_
  · simp [e12]
    refine w_drawn (j := j1) (most := 6) (wide := 1000000000000) (by omega) (by omega) (by omega) (by omega) fun L O j2 h ho hb hj2 => ?_
    have hsum : L.sum ≤ 10 ^ 12 := h.sum_le fun x hx => by have := hb x hx; omega
    exact ⟨rfl, by omega, L, O, h, ho, hsum, rfl⟩
  rintro fl m j3 ⟨rfl, hj3, L, O, hX, hO, hsum, rfl⟩
  simp only [thenS]
  have hLx : ∀ x ∈ L, x ≤ 10 ^ 18 := fun x hx => by have := le_sumT hx; omega
  have hwl : ∀ b ∈ O, (wdT L b).length ≤ 50 := fun b hb => by
    have hlt := hX.lt hb
    have hg : gt L b ≤ 10 ^ 18 := by
      by_cases c : b < L.length
      · rw [gt_eq c]; exact hLx _ (List.getElem_mem c)
      · rw [gt_none (by omega)]; omega
    exact wd_len (by omega) (by omega)
  have hsw : sumS (O.map (wdT L)) + (O.map (wdT L)).length ≤ 306 := by
    have := lsum_le (xs := O.map (wdT L)) (m := 50) fun p hp => by
      obtain ⟨b, hb, rfl⟩ := List.mem_map.mp hp
      exact hwl b hb
    have h2 : sumS (O.map (wdT L)) ≤ 50 * (O.map (wdT L)).length := this
    rw [List.length_map] at h2 ⊢
    omega
  refine wSeq (fun fl m j4 => fl = .next ∧ j4 = j3 ∧ ∃ T : Str, T.length ≤ 306 ∧ m = [none, some .jar, some (.lst (ns.map D.str)), some dd, some (exD L O), some (.str T), d, e, f, g, h, l, o, p, q]) ?_ ?_
  · have e1 : idxD (exD L O) (.int 0) = some (tN L) := rfl
    have e2 : idxD (exD L O) (.int 1) = some (tN O) := rfl
    simp [e2]
    refine ⟨by omega, wC_map (c := fun b : Nat => .int (b : Nat)) (fun b => .str (wdT L b)) (fun b hb => ⟨_, rfl, ?_⟩) ?_⟩
    · have hlt := hX.lt hb
      have hbl : b < L.length := by rw [hX.len]; exact hlt
      have hg : gt L b ≤ 10 ^ 18 := by rw [gt_eq hbl]; exact hLx _ (List.getElem_mem hbl)
      obtain ⟨t1, t2⟩ := mS_ok (i := ((b : Nat) : Int)) (by omega)
      obtain ⟨t3, t4⟩ := mS_ok (i := ((gt L b : Nat) : Int)) (by omega)
      have ei : idxD (tN L) (.int (b : Nat)) = some (.int (gt L b : Nat)) := ix_t hbl
      have hcl : (Str.ofString ":").length = 1 := by decide
      simp [e1]
      refine ⟨_, t1, _, add_s (by omega), _, ei, _, t3, add_s (by rw [slen]; omega)⟩
    · have e : (O.map fun b => D.str (wdT L b)) = (O.map (wdT L)).map D.str := by rw [List.map_map]; rfl
      rw [e]
      exact w_joined (by omega) ⟨rfl, rfl, _, Nat.le_trans jn_sum hsw, rfl⟩
  rintro fl m j4 ⟨rfl, rfl, T, hT, rfl⟩
  simp only [thenS]
  refine wSeq (fun fl m j5 => fl = .next ∧ j5 = j4 ∧ ∃ ts : List Str, (∀ p ∈ ts, p.length ≤ 3000) ∧ ts.length = 5 ∧ m = [none, some .jar, some (.lst (ns.map D.str)), some dd, some (exD L O), some (.str T), some (.lst (ts.map D.str)), e, f, g, h, l, o, p, q]) ?_ ?_
  · have a1 : addD (.str T) (.str (Str.ofString " 5:1")) = some (.str (T ++ Str.ofString " 5:1")) := add_s (by rw [show (Str.ofString " 5:1").length = 4 from by decide]; omega)
    simp [a1]
    refine ⟨by omega, [T, T ++ Str.ofString " 5:1", Str.ofString "0:1 1:1 2:1 3:1 4:1 5:1 6:1", Str.ofString "0:1 1:1 2:1 3:1 4:1 5:1 5:1", Str.ofString "1:1"], fun p hp => ?_, rfl, rfl⟩
    simp only [List.mem_cons, List.not_mem_nil, or_false] at hp
    rcases hp with rfl | rfl | rfl | rfl | rfl
    · omega
    · rw [slen, show (Str.ofString " 5:1").length = 4 from by decide]; omega
    · decide +kernel
    · decide +kernel
    · decide
  rintro fl m j5 ⟨rfl, rfl, ts, ht1, ht2, rfl⟩
  simp only [thenS]
  refine wSeq (fun fl m j6 => fl = .next ∧ j6 = j5 ∧ ∃ ts : List Str, (∀ p ∈ ts, p.length ≤ 3000) ∧ ts.length = 12 ∧ Str.ofString "0:1" ∈ ts ∧ m = [none, some .jar, some (.lst (ns.map D.str)), some dd, some (exD L O), some (.str T), some (.lst (ts.map D.str)), e, f, g, h, l, o, p, q]) ?_ ?_
  · have a1 : addL (.lst (ts.map D.str)) (.lst [.str (Str.ofString "0:1"), .str (Str.ofString ""), .str (Str.ofString " "), .str (Str.ofString "0:999999999999 1:1"), .str (Str.ofString "0:1000000000000 1:1"), .str (Str.ofString "2:1 1:1"), .str (Str.ofString "3:5 0:5 1:5 2:5")]) = some (.lst (ts.map D.str ++ [.str (Str.ofString "0:1"), .str (Str.ofString ""), .str (Str.ofString " "), .str (Str.ofString "0:999999999999 1:1"), .str (Str.ofString "0:1000000000000 1:1"), .str (Str.ofString "2:1 1:1"), .str (Str.ofString "3:5 0:5 1:5 2:5")])) := if_pos (by simp; omega)
    simp [a1]
    refine ⟨by omega, ts ++ [Str.ofString "0:1", Str.ofString "", Str.ofString " ", Str.ofString "0:999999999999 1:1", Str.ofString "0:1000000000000 1:1", Str.ofString "2:1 1:1", Str.ofString "3:5 0:5 1:5 2:5"], fun p hp => ?_, by simp [ht2], by simp, by simp⟩
    rcases List.mem_append.mp hp with hp | hp
    · exact ht1 p hp
    · simp only [List.mem_cons, List.not_mem_nil, or_false] at hp
      rcases hp with rfl | rfl | rfl | rfl | rfl | rfl | rfl <;> decide +kernel
  clear ht1 ht2 ts
  rintro fl m j6 ⟨rfl, rfl, ts, ht1, ht2, ht3, rfl⟩
  simp only [thenS]
  refine wSeq (fun fl m j7 => fl = .next ∧ j7 = j6 ∧ ∃ ts : List Str, (∀ p ∈ ts, p.length ≤ 3000) ∧ ts.length = 25 ∧ Str.ofString "0:1" ∈ ts ∧ m = [none, some .jar, some (.lst (ns.map D.str)), some dd, some (exD L O), some (.str T), some (.lst (ts.map D.str)), e, f, g, h, l, o, p, q]) ?_ ?_
  · simp
    refine ⟨by omega, ts ++ ns, fun p hp => ?_, by simp [ht2, hn2], by simp [ht3], by simp⟩
    rcases List.mem_append.mp hp with hp | hp
    · exact ht1 p hp
    · exact hn1 p hp
  clear ht1 ht2 ht3 ts
  rintro fl m j7 ⟨rfl, rfl, ts, ht1, ht2, ht3, rfl⟩
  simp only [thenS]
  refine wSeq (fun fl m j8 => fl = .next ∧ j8 = j7 ∧ ∃ us : List Str, (∀ p ∈ us, p.length ≤ 300) ∧ 0 < us.length ∧ us.length ≤ 25 ∧ m = [none, some .jar, some (.lst (ns.map D.str)), some dd, some (exD L O), some (.str T), some (.lst (ts.map D.str)), some (.lst (us.map D.str)), f, g, h, l, o, p, q]) ?_ ?_
  · simp
    refine ⟨by omega, wC_filter (fun w : Str => decide (w.length < 200)) D.str (fun w hw => ⟨_, rfl, ?_, ?_⟩) ?_⟩
    · have := ht1 w hw
      have := len_s (x := w) (by omega)
      simp [this]
      omega
    · simp
    · refine ⟨rfl, rfl, ts.filter fun w => decide (w.length < 200), fun p hp => ?_, ?_, ?_, rfl⟩
      · have := (List.mem_filter.mp hp).2
        simp at this
        omega
      · exact List.length_pos_of_mem (List.mem_filter.mpr ⟨ht3, by decide⟩)
      · exact Nat.le_trans (List.length_filter_le ..) (by omega)
  rintro fl m j8 ⟨rfl, rfl, us, hu1, hu2, hu3, rfl⟩
  simp only [thenS]
  refine wSeq (fun fl m j9 => fl = .next ∧ j9 = j8 + 96 ∧ ∃ f g h, m = [none, some .jar, some (.lst (ns.map D.str)), some dd, some (exD L O), some (.str T), some (.lst (ts.map D.str)), some (.lst (us.map D.str)), f, g, h, l, o, p, q]) ?_ ?_
  · simp
    refine ⟨by omega, by omega, by rw [rngD_length]; omega, ?_⟩
    refine wC_inv (fun k acc j' => j' = j8 + 6 * k ∧ ∃ A : List Str, acc = A.map D.str ∧ A.length = k ∧ ∀ x ∈ A, x.length ≤ 900000) ⟨rfl, [], rfl, rfl, by simp⟩ (fun k2 d2 acc j3 hd hh => ?_) fun ys j3 hh => ?_
    · obtain ⟨rfl, A, rfl, rfl, h1⟩ := hh
      have hacc : A.length < 16 := by
        have := (List.getElem?_eq_some_iff.mp hd).1
        rwa [rngD_length] at this
      simp
      refine w_pick (by simpa using List.length_pos_iff.mp hu2) (by simp; omega) (by omega) fun y hy => ?_
      obtain ⟨w, hw, rfl⟩ := List.mem_map.mp hy
      refine w_twisted (hu1 w hw) (by omega) fun z hz => ?_
      refine ⟨by omega, A ++ [z], by simp, by simp, fun x hx => ?_⟩
      rcases List.mem_append.mp hx with hx | hx
      · exact h1 x hx
      · rw [List.mem_singleton.mp hx]; omega
    obtain ⟨rfl, A, rfl, lA, hA⟩ := hh
    rw [rngD_length] at lA ⊢
    have hadd : addL (.lst (ts.map D.str)) (.lst (A.map D.str)) = some (.lst ((ts ++ A).map D.str)) := by
      rw [List.map_append]
      exact if_pos (by simp; omega)
    have hall : ∀ x ∈ ts ++ A, x.length ≤ 900000 := fun x hx => by
      rcases List.mem_append.mp hx with hx | hx
      · have := ht1 x hx; omega
      · exact hA x hx
    generalize ts ++ A = zs at hadd hall
    refine ⟨_, hadd, _, rfl, ?_⟩
    refine wL_inv (fun k m j' => j' = j8 + 96 ∧ ∃ f g h, Is m [none, some .jar, some (.lst (ns.map D.str)), some dd, some (exD L O), some (.str T), some (.lst (ts.map D.str)), some (.lst (us.map D.str)), f, g, h, l, o, p, q]) ⟨by omega, _, _, _, rfl⟩ ?_ ?_
    · rintro k2 d2 m j4 hd2 ⟨rfl, f, g, h, rfl⟩
      rw [List.getElem?_map, Option.map_eq_some_iff] at hd2
      obtain ⟨x, hx, rfl⟩ := hd2
      have hxl := hall x (List.mem_of_getElem? hx)
      refine ⟨_, rfl, ?_⟩
      refine wSeq (fun fl m j5 => fl = .next ∧ j5 = j8 + 96 ∧ m = [none, some .jar, some (.lst (ns.map D.str)), some dd, some (exD L O), some (.str T), some (.lst (ts.map D.str)), some (.lst (us.map D.str)), some (.str x), some (oI (rdI x)), h, l, o, p, q]) ?_ ?_
      · simp
        refine w_intof (by omega) ?_
        exact ⟨rfl, rfl, rfl⟩
      rintro fl m j5 ⟨rfl, rfl, rfl⟩
      simp only [thenS]
      refine wSeq (fun fl m j5 => fl = .next ∧ j5 = j8 + 96 ∧ m = [none, some .jar, some (.lst (ns.map D.str)), some dd, some (exD L O), some (.str T), some (.lst (ts.map D.str)), some (.lst (us.map D.str)), some (.str x), some (oI (rdI x)), some (.lst [lxR (pxR x), inR2 (rdI x)]), l, o, p, q]) ?_ ?_
      · simp
        refine w_lexch (by omega) ?_
        cases e : rdI x with
        | none =>
          have e1 : isND (oI none) .non = some (.bl true) := rfl
          simp [e1]
          exact ⟨by omega, by omega, rfl⟩
        | some i =>
          have e1 : isND (oI (some i)) .non = some (.bl false) := rfl
          simp [e1]
          exact ⟨by omega, rfl⟩
      rintro fl m j5 ⟨rfl, rfl, rfl⟩
      simp only [thenS]
      obtain ⟨y, hy⟩ := rep_two x
      simp
      refine ⟨by omega, by omega, by rw [rngD_length]; omega, ?_⟩
      refine wC_rng (k := 2) (fun i => if i = 0 then lxR (pxR x) else inR2 (rdI x)) (fun i hi => ⟨_, rfl, ?_⟩) ?_
      · have hi2 : i = 0 ∨ i = 1 := by omega
        simp
        rcases hi2 with rfl | rfl
        · refine w_found0 (by omega) ?_
          exact ⟨rfl, rfl⟩
        · refine w_found1 (by omega) ?_
          exact ⟨rfl, rfl⟩
      · refine ⟨_, hy, _, rfl, _, hy, _, neS, _, rfl, ?_⟩
        rw [if_neg (by decide)]
        exact ⟨rfl, _, _, _, rfl⟩
    · rintro m j4 ⟨rfl, f, g, h, rfl⟩
      exact ⟨rfl, rfl, f, g, h, rfl⟩
  rintro fl m j9 ⟨rfl, rfl, f, g, h, rfl⟩
  simp only [thenS]
  simp
  refine ⟨by omega, by omega, ?_⟩
  refine w_pick (by simp) (by simp) (by omega) fun v hv => ?_
  have hv2 : isiD "str" v = some (.bl false) := by
    simp only [List.mem_cons, List.not_mem_nil, or_false] at hv
    rcases hv with rfl | rfl | rfl | rfl | rfl <;> rfl
  refine ⟨by omega, _, rfl, ?_⟩
  have hits : ∀ z ∈ [D.non, D.int 5, D.bl true, exD L O, D.lst [D.str (Str.ofString "0:1")], D.dct [], v], isiD "str" z = some (.bl false) := fun z hz => by
    simp only [List.mem_cons, List.not_mem_nil, or_false] at hz
    rcases hz with rfl | rfl | rfl | rfl | rfl | rfl | rfl <;> first | rfl | exact hv2
  generalize [D.non, D.int 5, D.bl true, exD L O, D.lst [D.str (Str.ofString "0:1")], D.dct [], v] = zs at hits
  refine wL_inv (fun k m j' => j' = j8 + 97 ∧ ∃ f, Is m [none, some .jar, some (.lst (ns.map D.str)), some dd, some (exD L O), some (.str T), some (.lst (ts.map D.str)), some (.lst (us.map D.str)), f, g, h, l, o, p, q]) ⟨by omega, _, rfl⟩ ?_ ?_
  · rintro k2 d2 m j4 hd2 ⟨rfl, f, rfl⟩
    have hz := hits d2 (List.mem_of_getElem? hd2)
    simp
    refine ⟨by omega, by omega, by rw [rngD_length]; omega, ?_⟩
    refine wC_rng (k := 2) (fun i => .lst [.non]) (fun i hi => ⟨_, rfl, ?_⟩) ?_
    · simp
      refine w_foundN hi hz ?_
      exact ⟨rfl, rfl⟩
    · refine ⟨_, rep_00, _, neS, _, rfl, ?_⟩
      rw [if_neg (by decide)]
      exact ⟨rfl, _, rfl⟩
  · rintro m j4 ⟨rfl, f, rfl⟩
    simp only [thenS]
    simp
    exact ⟨by omega, _, _, _, _, _, _, _, _, _, _, _, _, rfl⟩

end Lw
namespace Lw
open PySem PySem.Spec L2 Mp
open PyProof.Rows hiding St

theorem ok_law {P : Program} {w : World} {K : PySem.W.Frag} {mg : Str → Option Value} {base : Heap} {cl xc : Nat → Addr} {f fo : Addr} {fd fdo : FuncData} (hB : Blt mg) (hC : Cst mg) (C_drawn : ∀ R, Cal (jsN K cl xc xfT R) P w mg base 3 "_law_drawn" 3 F_drawn) (C_exchange_of : ∀ R, Cal (jsN K cl xc xfT R) P w mg base 3 "_law_exchange_of" 1 F_exchange_of) (C_found : ∀ R, Cal (jsN K cl xc xfT R) P w mg base 4 "_law_found" 2 F_found) (C_integer_of : ∀ R, Cal (jsN K cl xc xfT R) P w mg base 1 "_law_integer_of" 1 F_integer_of) (C_joined : ∀ R, Cal (jsN K cl xc xfT R) P w mg base 1 "_law_joined" 1 F_joined) (C_pick : ∀ R, Cal (jsN K cl xc xfT R) P w mg base 2 "_law_pick" 2 F_pick) (C_twisted : ∀ R, Cal (jsN K cl xc xfT R) P w mg base 3 "_law_twisted" 2 F_twisted)  (F : L2.Fun K "law" "law" st_law f fd)
    (FO : FnG P w K mg base CX0 1 fo fdo ["_law_script"] (spOpenG (jsN K cl xc xfT) Few K)) (mo : mg "_law_opened" = some (.ref fo)) (ko : PySem.W.keepIn K (.ref fo) = true) (bo : Binds K fdo ["_law_script"] []) : FnG P w K mg base CX0 5 f fd ["_law_script"] (spLaw K) := by
  refine fnG_sp F sc_law (fun vs H Q E h => ?_) (fun cdv A outer s H vs Q E hr hgd h => ⟨_, pss_cons (ps_set (i := 1) sc_law.nd rfl (by first | exact Or.inl rfl | exact Or.inr rfl) (pe_callG FO (hr.mono (by decide)) hgd rfl mo ko bo .nil pass0 (pa_cons (pv 0) pa_nil) (by decide) rfl rfl))
      (pss_ex (t := fun RB : Addr × Bs => rdS (jsN K cl xc xfT RB.1) RB.2 M_law W0 f_law) fun RB => b_law hB hC (C_drawn _) (C_exchange_of _) (C_found _) (C_integer_of _) (C_joined _) (C_pick _) (C_twisted _)  hr hgd), law_pureG (fun _ => rfl) (by decide) (by decide) law_holds h⟩)
  obtain ⟨_, _, rfl, _⟩ := h
  rfl


theorem all_mk {P : Program} {w : World} {K : PySem.W.Frag} {h : Heap} {mg : Str → Option Value} {fa f0 f1 f2 f3 f4 f5 f6 f7 f8 f9 f10 f11 f12 f13 f14 f15 f16 f17 : Addr} (X : K.In h) (G : h.Ns mainGlobals mg) (hfa : mg "law" = some (.ref fa))
    {od0 od1 od2 od3 od4 od5 od6 od7 od8 od9 od10 od11 od12 od13 od14 od15 od16 od17 an0 an1 an2 an3 an4 an5 an6 an7 an8 an9 an10 an11 an12 an13 an14 an15 an16 an17 : Option Addr} {sl0 sl1 sl2 sl3 sl4 sl5 sl6 sl7 sl8 sl9 sl10 sl11 sl12 sl13 sl14 sl15 sl16 sl17 : Array (Option Value)} {oc0 dc0 pm0 cd0 ct0 kV0 oc1 dc1 pm1 cd1 ct1 kV1 oc2 dc2 pm2 cd2 ct2 kV2 oc3 dc3 pm3 cd3 ct3 kV3 oc4 dc4 pm4 cd4 ct4 kV4 oc5 dc5 pm5 cd5 ct5 kV5 oc6 dc6 pm6 cd6 ct6 kV6 oc7 dc7 pm7 cd7 ct7 kV7 oc8 dc8 pm8 cd8 ct8 kV8 oc9 dc9 pm9 cd9 ct9 kV9 oc10 dc10 pm10 cd10 ct10 kV10 oc11 dc11 pm11 cd11 ct11 kV11 oc12 dc12 pm12 cd12 ct12 kV12 oc13 dc13 pm13 cd13 ct13 kV13 oc14 dc14 pm14 cd14 ct14 kV14 oc15 dc15 pm15 cd15 ct15 kV15 oc16 dc16 pm16 cd16 ct16 kV16 oc17 dc17 pm17 cd17 ct17 kV17 : Value}  (sm0 : K.lookup sysModules = none)
        (a0 : PySem.W.nsIn K mainGlobals "_law_opened" = some (some (.ref f0))) (l0 : K.lookup f0 = some ⟨oc0, od0, .func (PySem.W.fnOf "_law_opened" "_law_opened" (defArgs st_opened) (defBody st_opened) (defScope st_opened) .none kV0 dc0 pm0 an0 cd0 ct0), sl0⟩) (c0 : PySem.W.codeIn K cd0 "_law_opened" = true) (k0 : PySem.W.keepIn K (.ref f0) = true)
    (a1 : PySem.W.nsIn K mainGlobals "_law_lift" = some (some (.ref f1))) (l1 : K.lookup f1 = some ⟨oc1, od1, .func (PySem.W.fnOf "_law_lift" "_law_lift" (defArgs st_lift) (defBody st_lift) (defScope st_lift) .none kV1 dc1 pm1 an1 cd1 ct1), sl1⟩) (c1 : PySem.W.codeIn K cd1 "_law_lift" = true) (k1 : PySem.W.keepIn K (.ref f1) = true)
    (a2 : PySem.W.nsIn K mainGlobals "_law_mixed" = some (some (.ref f2))) (l2 : K.lookup f2 = some ⟨oc2, od2, .func (PySem.W.fnOf "_law_mixed" "_law_mixed" (defArgs st_mixed) (defBody st_mixed) (defScope st_mixed) .none kV2 dc2 pm2 an2 cd2 ct2), sl2⟩) (c2 : PySem.W.codeIn K cd2 "_law_mixed" = true) (k2 : PySem.W.keepIn K (.ref f2) = true)
    (a3 : PySem.W.nsIn K mainGlobals "_law_pick" = some (some (.ref f3))) (l3 : K.lookup f3 = some ⟨oc3, od3, .func (PySem.W.fnOf "_law_pick" "_law_pick" (defArgs st_pick) (defBody st_pick) (defScope st_pick) .none kV3 dc3 pm3 an3 cd3 ct3), sl3⟩) (c3 : PySem.W.codeIn K cd3 "_law_pick" = true) (k3 : PySem.W.keepIn K (.ref f3) = true)
    (a4 : PySem.W.nsIn K mainGlobals "_law_far" = some (some (.ref f4))) (l4 : K.lookup f4 = some ⟨oc4, od4, .func (PySem.W.fnOf "_law_far" "_law_far" (defArgs st_far) (defBody st_far) (defScope st_far) .none kV4 dc4 pm4 an4 cd4 ct4), sl4⟩) (c4 : PySem.W.codeIn K cd4 "_law_far" = true) (k4 : PySem.W.keepIn K (.ref f4) = true)
    (a5 : PySem.W.nsIn K mainGlobals "_law_drawn" = some (some (.ref f5))) (l5 : K.lookup f5 = some ⟨oc5, od5, .func (PySem.W.fnOf "_law_drawn" "_law_drawn" (defArgs st_drawn) (defBody st_drawn) (defScope st_drawn) .none kV5 dc5 pm5 an5 cd5 ct5), sl5⟩) (c5 : PySem.W.codeIn K cd5 "_law_drawn" = true) (k5 : PySem.W.keepIn K (.ref f5) = true)
    (a6 : PySem.W.nsIn K mainGlobals "_law_joined" = some (some (.ref f6))) (l6 : K.lookup f6 = some ⟨oc6, od6, .func (PySem.W.fnOf "_law_joined" "_law_joined" (defArgs st_joined) (defBody st_joined) (defScope st_joined) .none kV6 dc6 pm6 an6 cd6 ct6), sl6⟩) (c6 : PySem.W.codeIn K cd6 "_law_joined" = true) (k6 : PySem.W.keepIn K (.ref f6) = true)
    (a7 : PySem.W.nsIn K mainGlobals "_law_integer_of" = some (some (.ref f7))) (l7 : K.lookup f7 = some ⟨oc7, od7, .func (PySem.W.fnOf "_law_integer_of" "_law_integer_of" (defArgs st_integer_of) (defBody st_integer_of) (defScope st_integer_of) .none kV7 dc7 pm7 an7 cd7 ct7), sl7⟩) (c7 : PySem.W.codeIn K cd7 "_law_integer_of" = true) (k7 : PySem.W.keepIn K (.ref f7) = true)
    (a8 : PySem.W.nsIn K mainGlobals "_law_twisted" = some (some (.ref f8))) (l8 : K.lookup f8 = some ⟨oc8, od8, .func (PySem.W.fnOf "_law_twisted" "_law_twisted" (defArgs st_twisted) (defBody st_twisted) (defScope st_twisted) .none kV8 dc8 pm8 an8 cd8 ct8), sl8⟩) (c8 : PySem.W.codeIn K cd8 "_law_twisted" = true) (k8 : PySem.W.keepIn K (.ref f8) = true)
    (a9 : PySem.W.nsIn K mainGlobals "_law_block" = some (some (.ref f9))) (l9 : K.lookup f9 = some ⟨oc9, od9, .func (PySem.W.fnOf "_law_block" "_law_block" (defArgs st_block) (defBody st_block) (defScope st_block) .none kV9 dc9 pm9 an9 cd9 ct9), sl9⟩) (c9 : PySem.W.codeIn K cd9 "_law_block" = true) (k9 : PySem.W.keepIn K (.ref f9) = true)
    (a10 : PySem.W.nsIn K mainGlobals "_law_exchange_of" = some (some (.ref f10))) (l10 : K.lookup f10 = some ⟨oc10, od10, .func (PySem.W.fnOf "_law_exchange_of" "_law_exchange_of" (defArgs st_exchange_of) (defBody st_exchange_of) (defScope st_exchange_of) .none kV10 dc10 pm10 an10 cd10 ct10), sl10⟩) (c10 : PySem.W.codeIn K cd10 "_law_exchange_of" = true) (k10 : PySem.W.keepIn K (.ref f10) = true)
    (a11 : PySem.W.nsIn K mainGlobals "read_integer" = some (some (.ref f11))) (l11 : K.lookup f11 = some ⟨oc11, od11, .func (PySem.W.fnOf "read_integer" "read_integer" (defArgs st_p_read_integer) (defBody st_p_read_integer) (defScope st_p_read_integer) .none kV11 dc11 pm11 an11 cd11 ct11), sl11⟩) (c11 : PySem.W.codeIn K cd11 "read_integer" = true) (k11 : PySem.W.keepIn K (.ref f11) = true)
    (a12 : PySem.W.nsIn K mainGlobals "is_integer" = some (some (.ref f12))) (l12 : K.lookup f12 = some ⟨oc12, od12, .func (PySem.W.fnOf "is_integer" "is_integer" (defArgs st_p_is_integer) (defBody st_p_is_integer) (defScope st_p_is_integer) .none kV12 dc12 pm12 an12 cd12 ct12), sl12⟩) (c12 : PySem.W.codeIn K cd12 "is_integer" = true) (k12 : PySem.W.keepIn K (.ref f12) = true)
    (a13 : PySem.W.nsIn K mainGlobals "read_block" = some (some (.ref f13))) (l13 : K.lookup f13 = some ⟨oc13, od13, .func (PySem.W.fnOf "read_block" "read_block" (defArgs st_p_read_block) (defBody st_p_read_block) (defScope st_p_read_block) .none kV13 dc13 pm13 an13 cd13 ct13), sl13⟩) (c13 : PySem.W.codeIn K cd13 "read_block" = true) (k13 : PySem.W.keepIn K (.ref f13) = true)
    (a14 : PySem.W.nsIn K mainGlobals "parse_exchange" = some (some (.ref f14))) (l14 : K.lookup f14 = some ⟨oc14, od14, .func (PySem.W.fnOf "parse_exchange" "parse_exchange" (defArgs st_p_parse_exchange) (defBody st_p_parse_exchange) (defScope st_p_parse_exchange) .none kV14 dc14 pm14 an14 cd14 ct14), sl14⟩) (c14 : PySem.W.codeIn K cd14 "parse_exchange" = true) (k14 : PySem.W.keepIn K (.ref f14) = true)
    (a15 : PySem.W.nsIn K mainGlobals "parse_integer" = some (some (.ref f15))) (l15 : K.lookup f15 = some ⟨oc15, od15, .func (PySem.W.fnOf "parse_integer" "parse_integer" (defArgs st_p_parse_integer) (defBody st_p_parse_integer) (defScope st_p_parse_integer) .none kV15 dc15 pm15 an15 cd15 ct15), sl15⟩) (c15 : PySem.W.codeIn K cd15 "parse_integer" = true) (k15 : PySem.W.keepIn K (.ref f15) = true)
    (a16 : PySem.W.nsIn K mainGlobals "_law_found" = some (some (.ref f16))) (l16 : K.lookup f16 = some ⟨oc16, od16, .func (PySem.W.fnOf "_law_found" "_law_found" (defArgs st_found) (defBody st_found) (defScope st_found) .none kV16 dc16 pm16 an16 cd16 ct16), sl16⟩) (c16 : PySem.W.codeIn K cd16 "_law_found" = true) (k16 : PySem.W.keepIn K (.ref f16) = true)
    (a17 : PySem.W.nsIn K mainGlobals "law" = some (some (.ref f17))) (l17 : K.lookup f17 = some ⟨oc17, od17, .func (PySem.W.fnOf "law" "law" (defArgs st_law) (defBody st_law) (defScope st_law) .none kV17 dc17 pm17 an17 cd17 ct17), sl17⟩) (c17 : PySem.W.codeIn K cd17 "law" = true) (k17 : PySem.W.keepIn K (.ref f17) = true)
    {C0 C1 C2 C3 C4 : Addr}
{xnm2 xqn2 : Str} {xN2 fI2 : Addr} {xbs2 xbm2 xsb2 : List Value} {xsn2 : List Str} {xab2 : Bool} {xco2 : Option Bool} {xdd2 xod2 xan2 : Option Addr} {xk02 xk12 xk22 xk32 xk52 : Option Value} {xsl2 : Array (Option Value)} {xoc2 xkV2 xdc2 xpm2 xcd2 xct2 : Value} (ya0 : PySem.W.nsIn K mainGlobals "TurnError" = some (some (.ref C0)))
(ya1 : PySem.W.nsIn K mainGlobals "NoIndex" = some (some (.ref C1)))
(ya2 : PySem.W.nsIn K mainGlobals "BadText" = some (some (.ref C2)))
(ya3 : PySem.W.nsIn K mainGlobals "BadBatch" = some (some (.ref C3)))
(ya4 : PySem.W.nsIn K mainGlobals "Rejected" = some (some (.ref C4)))
(yb0 : PySem.W.findIn K (.ref C0) "__getattribute__" = some (some (.builtin "BaseException.__getattribute__")))
(yc0 : PySem.W.findIn K (.ref C0) "__getattr__" = some none)
(yd0 : PySem.W.subIn K (.ref C0) (.type "BaseException") = some true)
(ye0 : PySem.W.hasDictIn K C0 = true)
(yf0 : PySem.W.findIn K (.ref C0) "__class__" = some (some (.builtin "object.__class__")))
(yi0 : PySem.W.mroIn K C0 (.type "object") = some true)
(yj0 : PySem.W.typeIn K (.ref C0) = some (.type "type"))
(yk0 : PySem.W.subIn K (.ref C0) (.type "ValueError") = some true)
(yn0_index : PySem.W.findIn K (.ref C0) "index" = some none)
(ys0_0 : PySem.W.subIn K (.ref C0) (.ref C0) = some true)
(ys0_1 : PySem.W.subIn K (.ref C0) (.ref C1) = some false)
(ys0_2 : PySem.W.subIn K (.ref C0) (.ref C2) = some false)
(ys0_3 : PySem.W.subIn K (.ref C0) (.ref C3) = some false)
(ys0_4 : PySem.W.subIn K (.ref C0) (.ref C4) = some false)
(yb1 : PySem.W.findIn K (.ref C1) "__getattribute__" = some (some (.builtin "BaseException.__getattribute__")))
(yc1 : PySem.W.findIn K (.ref C1) "__getattr__" = some none)
(yd1 : PySem.W.subIn K (.ref C1) (.type "BaseException") = some true)
(ye1 : PySem.W.hasDictIn K C1 = true)
(yf1 : PySem.W.findIn K (.ref C1) "__class__" = some (some (.builtin "object.__class__")))
(yi1 : PySem.W.mroIn K C1 (.type "object") = some true)
(yj1 : PySem.W.typeIn K (.ref C1) = some (.type "type"))
(yk1 : PySem.W.subIn K (.ref C1) (.type "ValueError") = some true)
(yn1_index : PySem.W.findIn K (.ref C1) "index" = some none)
(ys1_0 : PySem.W.subIn K (.ref C1) (.ref C0) = some true)
(ys1_1 : PySem.W.subIn K (.ref C1) (.ref C1) = some true)
(ys1_2 : PySem.W.subIn K (.ref C1) (.ref C2) = some false)
(ys1_3 : PySem.W.subIn K (.ref C1) (.ref C3) = some false)
(ys1_4 : PySem.W.subIn K (.ref C1) (.ref C4) = some false)
(yb2 : PySem.W.findIn K (.ref C2) "__getattribute__" = some (some (.builtin "BaseException.__getattribute__")))
(yc2 : PySem.W.findIn K (.ref C2) "__getattr__" = some none)
(yd2 : PySem.W.subIn K (.ref C2) (.type "BaseException") = some true)
(ye2 : PySem.W.hasDictIn K C2 = true)
(yf2 : PySem.W.findIn K (.ref C2) "__class__" = some (some (.builtin "object.__class__")))
(yi2 : PySem.W.mroIn K C2 (.type "object") = some true)
(yj2 : PySem.W.typeIn K (.ref C2) = some (.type "type"))
(yk2 : PySem.W.subIn K (.ref C2) (.type "ValueError") = some true)
(yn2_index : PySem.W.findIn K (.ref C2) "index" = some none)
(ys2_0 : PySem.W.subIn K (.ref C2) (.ref C0) = some true)
(ys2_1 : PySem.W.subIn K (.ref C2) (.ref C1) = some false)
(ys2_2 : PySem.W.subIn K (.ref C2) (.ref C2) = some true)
(ys2_3 : PySem.W.subIn K (.ref C2) (.ref C3) = some false)
(ys2_4 : PySem.W.subIn K (.ref C2) (.ref C4) = some false)
(yb3 : PySem.W.findIn K (.ref C3) "__getattribute__" = some (some (.builtin "BaseException.__getattribute__")))
(yc3 : PySem.W.findIn K (.ref C3) "__getattr__" = some none)
(yd3 : PySem.W.subIn K (.ref C3) (.type "BaseException") = some true)
(ye3 : PySem.W.hasDictIn K C3 = true)
(yf3 : PySem.W.findIn K (.ref C3) "__class__" = some (some (.builtin "object.__class__")))
(yi3 : PySem.W.mroIn K C3 (.type "object") = some true)
(yj3 : PySem.W.typeIn K (.ref C3) = some (.type "type"))
(yk3 : PySem.W.subIn K (.ref C3) (.type "ValueError") = some true)
(yn3_index : PySem.W.findIn K (.ref C3) "index" = some none)
(ys3_0 : PySem.W.subIn K (.ref C3) (.ref C0) = some true)
(ys3_1 : PySem.W.subIn K (.ref C3) (.ref C1) = some false)
(ys3_2 : PySem.W.subIn K (.ref C3) (.ref C2) = some false)
(ys3_3 : PySem.W.subIn K (.ref C3) (.ref C3) = some true)
(ys3_4 : PySem.W.subIn K (.ref C3) (.ref C4) = some false)
(yb4 : PySem.W.findIn K (.ref C4) "__getattribute__" = some (some (.builtin "BaseException.__getattribute__")))
(yc4 : PySem.W.findIn K (.ref C4) "__getattr__" = some none)
(yd4 : PySem.W.subIn K (.ref C4) (.type "BaseException") = some true)
(ye4 : PySem.W.hasDictIn K C4 = true)
(yf4 : PySem.W.findIn K (.ref C4) "__class__" = some (some (.builtin "object.__class__")))
(yi4 : PySem.W.mroIn K C4 (.type "object") = some true)
(yj4 : PySem.W.typeIn K (.ref C4) = some (.type "type"))
(yk4 : PySem.W.subIn K (.ref C4) (.type "ValueError") = some true)
(yn4_index : PySem.W.findIn K (.ref C4) "index" = some none)
(ys4_0 : PySem.W.subIn K (.ref C4) (.ref C0) = some true)
(ys4_1 : PySem.W.subIn K (.ref C4) (.ref C1) = some false)
(ys4_2 : PySem.W.subIn K (.ref C4) (.ref C2) = some false)
(ys4_3 : PySem.W.subIn K (.ref C4) (.ref C3) = some false)
(ys4_4 : PySem.W.subIn K (.ref C4) (.ref C4) = some true)
(yg : PySem.W.specialIn K (.builtin "object.__class__") "__get__" = some (some (.builtin "getset_descriptor.__get__")))
(yh : PySem.W.takesIn K (.builtin "object.__class__") = some true)
(yl2 : K.lookup C2 = some (excClassObj xnm2 xqn2 C2 xN2 xbs2 xbm2 true xsn2 xsb2 xab2 xco2 xdd2 xk02 xk12 xk22 xk32 xk52 "ValueError.__new__"))
(yr2 : PySem.HandSPX.refsVE xbm2 = true)
(yt2 : PySem.W.findIn K (.ref C2) "__setattr__" = some (some (.builtin "object.__setattr__")))
(yo2 : PySem.W.keepIn K (.ref C2) = true)
(ym2 : PySem.W.findIn K (.ref C2) "index" = some none)
(yu2 : PySem.W.findIn K (.ref C2) "__init__" = some (some (.ref fI2)))
(yv2 : PySem.W.typeIn K (.ref fI2) = some (.type "function"))
(yw2 : K.lookup fI2 = some ⟨xoc2, xod2, .func (PySem.W.fnOf "__init__" "BadText.__init__" (defArgs st_ini2) (defBody st_ini2) (defScope st_ini2) .none xkV2 xdc2 xpm2 xan2 xcd2 xct2), xsl2⟩)
(yx2 : PySem.W.codeIn K xcd2 "BadText.__init__" = true)
(yy2 : PySem.W.keepIn K (.ref fI2) = true)
    (n0 : PySem.W.nsIn K mainGlobals "ValueError" = some none) (n1 : PySem.W.nsIn K mainGlobals "abs" = some none) (n2 : PySem.W.nsIn K mainGlobals "all" = some none) (n3 : PySem.W.nsIn K mainGlobals "bool" = some none) (n4 : PySem.W.nsIn K mainGlobals "enumerate" = some none) (n5 : PySem.W.nsIn K mainGlobals "int" = some none) (n6 : PySem.W.nsIn K mainGlobals "isinstance" = some none) (n7 : PySem.W.nsIn K mainGlobals "len" = some none) (n8 : PySem.W.nsIn K mainGlobals "list" = some none) (n9 : PySem.W.nsIn K mainGlobals "max" = some none) (n10 : PySem.W.nsIn K mainGlobals "range" = some none) (n11 : PySem.W.nsIn K mainGlobals "repr" = some none) (n12 : PySem.W.nsIn K mainGlobals "sorted" = some none) (n13 : PySem.W.nsIn K mainGlobals "str" = some none) (n14 : PySem.W.nsIn K mainGlobals "sum" = some none) (n15 : PySem.W.nsIn K mainGlobals "tuple" = some none) {tk0 : Tok} {tk1 : Tok} {tk2 : Tok} {tk3 : Tok} (q0 : PySem.W.nsIn K mainGlobals "DIGITS" = some (some (.str "0123456789" tk0))) (q1 : PySem.W.nsIn K mainGlobals "LONGEST" = some (some (.int 20 tk1))) (q2 : PySem.W.nsIn K mainGlobals "MAX_BLOCKS" = some (some (.int 6 tk2))) (q3 : PySem.W.nsIn K mainGlobals "MAX_PLACES" = some (some (.int 1000000000000 tk3))) : K.lookup sysModules = none ∧
    ∃ fd : FuncData, (∀ (s : Shared) (u : Value), BindsTo s fd ⟨[u], []⟩ [("_law_script", u)]) ∧ ∀ base : Heap, K.In base → base.Ns mainGlobals mg → FnG P w K mg base CX0 5 fa fd ["_law_script"] (spLaw K) := by
  have e := hfa.symm.trans (PySem.W.mg_of X G a17)
  cases e
  have hB : Blt mg := fun x hx => by
    simp only [bnames, List.mem_cons, List.not_mem_nil, or_false] at hx
    rcases hx with rfl | rfl | rfl | rfl | rfl | rfl | rfl | rfl | rfl | rfl | rfl | rfl | rfl | rfl | rfl | rfl
    · exact PySem.W.mg_none_of X G n0
    · exact PySem.W.mg_none_of X G n1
    · exact PySem.W.mg_none_of X G n2
    · exact PySem.W.mg_none_of X G n3
    · exact PySem.W.mg_none_of X G n4
    · exact PySem.W.mg_none_of X G n5
    · exact PySem.W.mg_none_of X G n6
    · exact PySem.W.mg_none_of X G n7
    · exact PySem.W.mg_none_of X G n8
    · exact PySem.W.mg_none_of X G n9
    · exact PySem.W.mg_none_of X G n10
    · exact PySem.W.mg_none_of X G n11
    · exact PySem.W.mg_none_of X G n12
    · exact PySem.W.mg_none_of X G n13
    · exact PySem.W.mg_none_of X G n14
    · exact PySem.W.mg_none_of X G n15
  have hC1 : ∀ p ∈ cnames, ∃ t, mg p.1 = some (.int p.2 t) := fun x hx => by
    simp only [cnames, List.mem_cons, List.not_mem_nil, or_false] at hx; rcases hx with rfl | rfl | rfl
    · exact ⟨_, PySem.W.mg_of X G q1⟩
    · exact ⟨_, PySem.W.mg_of X G q2⟩
    · exact ⟨_, PySem.W.mg_of X G q3⟩
  have hC2 : ∀ p ∈ snames, ∃ t, mg p.1 = some (.str p.2 t) := fun x hx => by
    simp only [snames, List.mem_cons, List.not_mem_nil, or_false] at hx; rcases hx with rfl
    · exact ⟨_, PySem.W.mg_of X G q0⟩
  have hC : Cst mg := ⟨hC1, hC2⟩
  have hcl : ∀ c, XCl K ((xcT C0 C1 C2 C3 C4) c) := fun c => match c with | 0 => ⟨yb0, yc0, yd0, ye0, yf0, yg, yh, yi0, yj0, yk0⟩ | 1 => ⟨yb1, yc1, yd1, ye1, yf1, yg, yh, yi1, yj1, yk1⟩ | 2 => ⟨yb2, yc2, yd2, ye2, yf2, yg, yh, yi2, yj2, yk2⟩ | 3 => ⟨yb3, yc3, yd3, ye3, yf3, yg, yh, yi3, yj3, yk3⟩ | _ + 4 => ⟨yb4, yc4, yd4, ye4, yf4, yg, yh, yi4, yj4, yk4⟩
  have hno : ∀ f ∈ xattrs, ∀ c, PySem.W.findIn K (.ref ((xcT C0 C1 C2 C3 C4) c)) f = some none := fun f hf c => by
    simp only [xattrs, List.mem_cons, List.not_mem_nil, or_false] at hf; rcases hf with rfl
    · exact (match c with | 0 => yn0_index | 1 => yn1_index | 2 => yn2_index | 3 => yn3_index | _ + 4 => yn4_index)
  have hsu : ∀ c k, k < xn → PySem.W.subIn K (.ref ((xcT C0 C1 C2 C3 C4) c)) (.ref ((xcT C0 C1 C2 C3 C4) k)) = some (tT c k) := fun c k hk => match c, k, hk with | 0, 0, _ => ys0_0 | 0, 1, _ => ys0_1 | 0, 2, _ => ys0_2 | 0, 3, _ => ys0_3 | 0, 4, _ => ys0_4 | 1, 0, _ => ys1_0 | 1, 1, _ => ys1_1 | 1, 2, _ => ys1_2 | 1, 3, _ => ys1_3 | 1, 4, _ => ys1_4 | 2, 0, _ => ys2_0 | 2, 1, _ => ys2_1 | 2, 2, _ => ys2_2 | 2, 3, _ => ys2_3 | 2, 4, _ => ys2_4 | 3, 0, _ => ys3_0 | 3, 1, _ => ys3_1 | 3, 2, _ => ys3_2 | 3, 3, _ => ys3_3 | 3, 4, _ => ys3_4 | _ + 4, 0, _ => ys4_0 | _ + 4, 1, _ => ys4_1 | _ + 4, 2, _ => ys4_2 | _ + 4, 3, _ => ys4_3 | _ + 4, 4, _ => ys4_4 | _, _ + 5, hk => absurd hk (by show ¬ (_ + 5 < 5); omega)
  have hgl : ∀ p ∈ xnames, mg p.1 = some (.ref ((xcT C0 C1 C2 C3 C4) p.2)) ∧ p.2 < xn := fun p hp => by
    simp only [xnames, List.mem_cons, List.not_mem_nil, or_false] at hp; rcases hp with rfl | rfl | rfl | rfl | rfl
    · exact ⟨PySem.W.mg_of X G ya0, by decide⟩
    · exact ⟨PySem.W.mg_of X G ya1, by decide⟩
    · exact ⟨PySem.W.mg_of X G ya2, by decide⟩
    · exact ⟨PySem.W.mg_of X G ya3, by decide⟩
    · exact ⟨PySem.W.mg_of X G ya4, by decide⟩
  have hX : XT K mg (xcT C0 C1 C2 C3 C4) tT xn xnames xattrs := ⟨hgl, hcl, hno, hsu, by decide⟩
  have FI2 := fun_mk (st := st_ini2) yw2 yx2 yy2
  have bI2 := FI2.binds (ps := ["self", "index"]) fun _ _ _ _ _ _ us hl => match us, hl with | [_, _], _ => rfl
  have T2 : OexC K C2 := ⟨⟨xnm2, xqn2, xN2, xbs2, xbm2, xsn2, xsb2, xab2, xco2, xdd2, xk02, xk12, xk22, xk32, xk52, yl2, yr2⟩, yt2, yd2, yj2, yo2⟩
  have F0 := fun_mk (st := st_opened) l0 c0 k0
  have b0 := F0.binds (ps := ["_law_script"]) fun _ _ _ _ _ _ us hl => match us, hl with | [_], _ => rfl
  have m0 := PySem.W.mg_of X G a0
  have F1 := fun_mk (st := st_lift) l1 c1 k1
  have b1 := F1.binds (ps := ["_law_jar", "_law_many"]) fun _ _ _ _ _ _ us hl => match us, hl with | [_, _], _ => rfl
  have m1 := PySem.W.mg_of X G a1
  have F2 := fun_mk (st := st_mixed) l2 c2 k2
  have b2 := F2.binds (ps := ["_law_jar", "_law_items"]) fun _ _ _ _ _ _ us hl => match us, hl with | [_, _], _ => rfl
  have m2 := PySem.W.mg_of X G a2
  have F3 := fun_mk (st := st_pick) l3 c3 k3
  have b3 := F3.binds (ps := ["_law_jar", "_law_items"]) fun _ _ _ _ _ _ us hl => match us, hl with | [_, _], _ => rfl
  have m3 := PySem.W.mg_of X G a3
  have F4 := fun_mk (st := st_far) l4 c4 k4
  have b4 := F4.binds (ps := ["_law_jar", "_law_many"]) fun _ _ _ _ _ _ us hl => match us, hl with | [_, _], _ => rfl
  have m4 := PySem.W.mg_of X G a4
  have F5 := fun_mk (st := st_drawn) l5 c5 k5
  have b5 := F5.binds (ps := ["_law_jar", "_law_most", "_law_wide"]) fun _ _ _ _ _ _ us hl => match us, hl with | [_, _, _], _ => rfl
  have m5 := PySem.W.mg_of X G a5
  have F6 := fun_mk (st := st_joined) l6 c6 k6
  have b6 := F6.binds (ps := ["_law_items"]) fun _ _ _ _ _ _ us hl => match us, hl with | [_], _ => rfl
  have m6 := PySem.W.mg_of X G a6
  have F7 := fun_mk (st := st_integer_of) l7 c7 k7
  have b7 := F7.binds (ps := ["_law_part"]) fun _ _ _ _ _ _ us hl => match us, hl with | [_], _ => rfl
  have m7 := PySem.W.mg_of X G a7
  have F8 := fun_mk (st := st_twisted) l8 c8 k8
  have b8 := F8.binds (ps := ["_law_jar", "_law_text"]) fun _ _ _ _ _ _ us hl => match us, hl with | [_, _], _ => rfl
  have m8 := PySem.W.mg_of X G a8
  have F9 := fun_mk (st := st_block) l9 c9 k9
  have b9 := F9.binds (ps := ["_law_word"]) fun _ _ _ _ _ _ us hl => match us, hl with | [_], _ => rfl
  have m9 := PySem.W.mg_of X G a9
  have F10 := fun_mk (st := st_exchange_of) l10 c10 k10
  have b10 := F10.binds (ps := ["_law_text"]) fun _ _ _ _ _ _ us hl => match us, hl with | [_], _ => rfl
  have m10 := PySem.W.mg_of X G a10
  have F11 := fun_mk (st := st_p_read_integer) l11 c11 k11
  have b11 := F11.binds (ps := ["word"]) fun _ _ _ _ _ _ us hl => match us, hl with | [_], _ => rfl
  have m11 := PySem.W.mg_of X G a11
  have F12 := fun_mk (st := st_p_is_integer) l12 c12 k12
  have b12 := F12.binds (ps := ["value", "low", "high"]) fun _ _ _ _ _ _ us hl => match us, hl with | [_, _, _], _ => rfl
  have m12 := PySem.W.mg_of X G a12
  have F13 := fun_mk (st := st_p_read_block) l13 c13 k13
  have b13 := F13.binds (ps := ["word"]) fun _ _ _ _ _ _ us hl => match us, hl with | [_], _ => rfl
  have m13 := PySem.W.mg_of X G a13
  have F14 := fun_mk (st := st_p_parse_exchange) l14 c14 k14
  have b14 := F14.binds (ps := ["value"]) fun _ _ _ _ _ _ us hl => match us, hl with | [_], _ => rfl
  have m14 := PySem.W.mg_of X G a14
  have F15 := fun_mk (st := st_p_parse_integer) l15 c15 k15
  have b15 := F15.binds (ps := ["value"]) fun _ _ _ _ _ _ us hl => match us, hl with | [_], _ => rfl
  have m15 := PySem.W.mg_of X G a15
  have F16 := fun_mk (st := st_found) l16 c16 k16
  have b16 := F16.binds (ps := ["_law_way", "_law_value"]) fun _ _ _ _ _ _ us hl => match us, hl with | [_, _], _ => rfl
  have m16 := PySem.W.mg_of X G a16
  have F17 := fun_mk (st := st_law) l17 c17 k17
  have b17 := F17.binds (ps := ["_law_script"]) fun _ _ _ _ _ _ us hl => match us, hl with | [_], _ => rfl
  have m17 := PySem.W.mg_of X G a17
  refine ⟨sm0, PySem.W.fnOf "law" "law" (defArgs st_law) (defBody st_law) (defScope st_law) .none kV17 dc17 pm17 an17 cd17 ct17, fun s v => .of_eq rfl, fun base _ _ => ?_⟩
  have Y_BadText : ∀ {J : Type} (S : Js J), Lk K (fun _ => 0) (xcT C0 C1 C2 C3 C4) xfT S → XMk S P w mg base 2 "BadText" := fun S h => by
    obtain ⟨e1, e2, e3, e4⟩ := h
    have c1 : S.xc 2 = C2 := by rw [e3]; rfl
    have c2 : S.xf 2 = "index" := by rw [e4]; rfl
    refine ⟨?_, ?_, ?_, ?_⟩
    · rw [e1, c1, c2]; exact ⟨fI2, _, _, ok_ini2 FI2, yu2, yv2, bI2⟩
    · rw [e1, c1]; exact T2
    · rw [e1, c1, c2]; exact ym2
    · rw [c1]; exact PySem.W.mg_of X G ya2
  have X_BadText : ∀ R, XMk (jsN K (fun _ => 0) (xcT C0 C1 C2 C3 C4) xfT R) P w mg base 2 "BadText" := fun R => Y_BadText (jsN K (fun _ => 0) (xcT C0 C1 C2 C3 C4) xfT R) ⟨rfl, rfl, rfl, rfl⟩
  have C_lift : ∀ R, Cal (jsN K (fun _ => 0) (xcT C0 C1 C2 C3 C4) xfT R) P w mg base 1 "_law_lift" 2 drawF := fun R => ok_lift hB   F1 m1 b1
  have C_mixed : ∀ R, Cal (jsN K (fun _ => 0) (xcT C0 C1 C2 C3 C4) xfT R) P w mg base 2 "_law_mixed" 2 F_mixed := fun R => ok_mixed hB hC (C_lift R) F2 m2 b2
  have C_pick : ∀ R, Cal (jsN K (fun _ => 0) (xcT C0 C1 C2 C3 C4) xfT R) P w mg base 2 "_law_pick" 2 F_pick := fun R => ok_pick hB hC (C_lift R) F3 m3 b3
  have C_far : ∀ R, Cal (jsN K (fun _ => 0) (xcT C0 C1 C2 C3 C4) xfT R) P w mg base 2 "_law_far" 2 F_far := fun R => ok_far hB hC (C_lift R) F4 m4 b4
  have C_drawn : ∀ R, Cal (jsN K (fun _ => 0) (xcT C0 C1 C2 C3 C4) xfT R) P w mg base 3 "_law_drawn" 3 F_drawn := fun R => ok_drawn hB hC (C_far R) (C_lift R) (C_mixed R) (C_pick R) F5 m5 b5
  have C_joined : ∀ R, Cal (jsN K (fun _ => 0) (xcT C0 C1 C2 C3 C4) xfT R) P w mg base 1 "_law_joined" 1 F_joined := fun R => ok_joined hB hC  F6 m6 b6
  have C_integer_of : ∀ R, Cal (jsN K (fun _ => 0) (xcT C0 C1 C2 C3 C4) xfT R) P w mg base 1 "_law_integer_of" 1 F_integer_of := fun R => ok_integer_of hB hC  F7 m7 b7
  have C_twisted : ∀ R, Cal (jsN K (fun _ => 0) (xcT C0 C1 C2 C3 C4) xfT R) P w mg base 3 "_law_twisted" 2 F_twisted := fun R => ok_twisted hB hC (C_joined R) (C_lift R) (C_pick R) F8 m8 b8
  have C_block : ∀ R, Cal (jsN K (fun _ => 0) (xcT C0 C1 C2 C3 C4) xfT R) P w mg base 2 "_law_block" 1 F_block := fun R => ok_block hB hC (C_integer_of R) F9 m9 b9
  have C_exchange_of : ∀ R, Cal (jsN K (fun _ => 0) (xcT C0 C1 C2 C3 C4) xfT R) P w mg base 3 "_law_exchange_of" 1 F_exchange_of := fun R => ok_exchange_of hB hC (C_block R) F10 m10 b10
  have C_p_read_integer : ∀ R, Cal (jsN K (fun _ => 0) (xcT C0 C1 C2 C3 C4) xfT R) P w mg base 1 "read_integer" 1 F_p_read_integer := fun R => ok_p_read_integer hB hC  F11 m11 b11
  have U_p_is_integer : ∀ {J : Type} (S : Js J), Lk K (fun _ => 0) (xcT C0 C1 C2 C3 C4) xfT S → Cal S P w mg base 1 "is_integer" 3 F_p_is_integer := fun S h => ok_p_is_integer h hB hC  F12 m12 b12
  have C_p_is_integer : ∀ R, Cal (jsN K (fun _ => 0) (xcT C0 C1 C2 C3 C4) xfT R) P w mg base 1 "is_integer" 3 F_p_is_integer := fun R => U_p_is_integer (jsN K (fun _ => 0) (xcT C0 C1 C2 C3 C4) xfT R) ⟨rfl, rfl, rfl, rfl⟩
  have C_p_read_block : ∀ R, Cal (jsN K (fun _ => 0) (xcT C0 C1 C2 C3 C4) xfT R) P w mg base 2 "read_block" 1 F_p_read_block := fun R => ok_p_read_block hB hC (C_p_is_integer R) (C_p_read_integer R) F13 m13 b13
  have C_p_parse_exchange : ∀ R, Cal (jsN K (fun _ => 0) (xcT C0 C1 C2 C3 C4) xfT R) P w mg base 3 "parse_exchange" 1 F_p_parse_exchange := fun R => ok_p_parse_exchange hB hC (C_p_read_block R) (X_BadText R) F14 m14 b14
  have C_p_parse_integer : ∀ R, Cal (jsN K (fun _ => 0) (xcT C0 C1 C2 C3 C4) xfT R) P w mg base 3 "parse_integer" 1 F_p_parse_integer := fun R => ok_p_parse_integer hB hC (C_p_read_integer R) (X_BadText R) F15 m15 b15
  have C_found : ∀ R, Cal (jsN K (fun _ => 0) (xcT C0 C1 C2 C3 C4) xfT R) P w mg base 4 "_law_found" 2 F_found := fun R => ok_found hB hC (C_p_parse_exchange R) (C_p_parse_integer R) hX F16 m16 b16
  exact ok_law hB hC C_drawn C_exchange_of C_found C_integer_of C_joined C_pick C_twisted  F17 ((ok_opened hB F0).imp fun _ _ _ _ h => open_lift h) m0 k0 b0
end Lw
open PySem PySem.W PyProof.Rows
set_option maxRecDepth 100000 in
set_option maxHeartbeats 0 in
theorem PySem.Challenge.cw_blockturns_k72_other_texts_refused_holds : PySem.Challenge.rw_blockturns_k72_other_texts_refused.Holds := by
  w_on; o_law; k_head; (case hw => w_witness2)
  k_fill
  refine Mp.walk_ofG (l := PySem.Challenge.rw_blockturns_k72_other_texts_refused) (k := 5) (x := "_law_script") rfl rfl ⟨rfl, by decide, by decide⟩ rfl (fun w h Y => PySem.W.kIn_of Y) ?F
  case F =>
    intro w mg fa h KX G hmg
    refine' Lw.all_mk KX G hmg ?sm0 ?a0 ?l0 ?c0 ?k0 ?a1 ?l1 ?c1 ?k1 ?a2 ?l2 ?c2 ?k2 ?a3 ?l3 ?c3 ?k3 ?a4 ?l4 ?c4 ?k4 ?a5 ?l5 ?c5 ?k5 ?a6 ?l6 ?c6 ?k6 ?a7 ?l7 ?c7 ?k7 ?a8 ?l8 ?c8 ?k8 ?a9 ?l9 ?c9 ?k9 ?a10 ?l10 ?c10 ?k10 ?a11 ?l11 ?c11 ?k11 ?a12 ?l12 ?c12 ?k12 ?a13 ?l13 ?c13 ?k13 ?a14 ?l14 ?c14 ?k14 ?a15 ?l15 ?c15 ?k15 ?a16 ?l16 ?c16 ?k16 ?a17 ?l17 ?c17 ?k17 ?ya0 ?ya1 ?ya2 ?ya3 ?ya4 ?yb0 ?yc0 ?yd0 ?ye0 ?yf0 ?yi0 ?yj0 ?yk0 ?yn0_index ?ys0_0 ?ys0_1 ?ys0_2 ?ys0_3 ?ys0_4 ?yb1 ?yc1 ?yd1 ?ye1 ?yf1 ?yi1 ?yj1 ?yk1 ?yn1_index ?ys1_0 ?ys1_1 ?ys1_2 ?ys1_3 ?ys1_4 ?yb2 ?yc2 ?yd2 ?ye2 ?yf2 ?yi2 ?yj2 ?yk2 ?yn2_index ?ys2_0 ?ys2_1 ?ys2_2 ?ys2_3 ?ys2_4 ?yb3 ?yc3 ?yd3 ?ye3 ?yf3 ?yi3 ?yj3 ?yk3 ?yn3_index ?ys3_0 ?ys3_1 ?ys3_2 ?ys3_3 ?ys3_4 ?yb4 ?yc4 ?yd4 ?ye4 ?yf4 ?yi4 ?yj4 ?yk4 ?yn4_index ?ys4_0 ?ys4_1 ?ys4_2 ?ys4_3 ?ys4_4 ?yg ?yh ?yl2 ?yr2 ?yt2 ?yo2 ?ym2 ?yu2 ?yv2 ?yw2 ?yx2 ?yy2 ?n0 ?n1 ?n2 ?n3 ?n4 ?n5 ?n6 ?n7 ?n8 ?n9 ?n10 ?n11 ?n12 ?n13 ?n14 ?n15 ?q0 ?q1 ?q2 ?q3
    (case sm0 => first | k_is | rfl)
    (case a0 => k_is); (case l0 => k_is); (case c0 => k_is); (case k0 => k_is)
    (case a1 => k_is); (case l1 => k_is); (case c1 => k_is); (case k1 => k_is)
    (case a2 => k_is); (case l2 => k_is); (case c2 => k_is); (case k2 => k_is)
    (case a3 => k_is); (case l3 => k_is); (case c3 => k_is); (case k3 => k_is)
    (case a4 => k_is); (case l4 => k_is); (case c4 => k_is); (case k4 => k_is)
    (case a5 => k_is); (case l5 => k_is); (case c5 => k_is); (case k5 => k_is)
    (case a6 => k_is); (case l6 => k_is); (case c6 => k_is); (case k6 => k_is)
    (case a7 => k_is); (case l7 => k_is); (case c7 => k_is); (case k7 => k_is)
    (case a8 => k_is); (case l8 => k_is); (case c8 => k_is); (case k8 => k_is)
    (case a9 => k_is); (case l9 => k_is); (case c9 => k_is); (case k9 => k_is)
    (case a10 => k_is); (case l10 => k_is); (case c10 => k_is); (case k10 => k_is)
    (case a11 => k_is); (case l11 => k_is); (case c11 => k_is); (case k11 => k_is)
    (case a12 => k_is); (case l12 => k_is); (case c12 => k_is); (case k12 => k_is)
    (case a13 => k_is); (case l13 => k_is); (case c13 => k_is); (case k13 => k_is)
    (case a14 => k_is); (case l14 => k_is); (case c14 => k_is); (case k14 => k_is)
    (case a15 => k_is); (case l15 => k_is); (case c15 => k_is); (case k15 => k_is)
    (case a16 => k_is); (case l16 => k_is); (case c16 => k_is); (case k16 => k_is)
    (case a17 => k_is); (case l17 => k_is); (case c17 => k_is); (case k17 => k_is)
    (case ya0 => k_is)
    (case ya1 => k_is)
    (case ya2 => k_is)
    (case ya3 => k_is)
    (case ya4 => k_is)
    (case yb0 => k_is)
    (case yc0 => k_is)
    (case yd0 => k_is)
    (case ye0 => k_is)
    (case yf0 => k_is)
    (case yi0 => k_is)
    (case yj0 => k_is)
    (case yk0 => k_is)
    (case yn0_index => k_is)
    (case ys0_0 => k_is)
    (case ys0_1 => k_is)
    (case ys0_2 => k_is)
    (case ys0_3 => k_is)
    (case ys0_4 => k_is)
    (case yb1 => k_is)
    (case yc1 => k_is)
    (case yd1 => k_is)
    (case ye1 => k_is)
    (case yf1 => k_is)
    (case yi1 => k_is)
    (case yj1 => k_is)
    (case yk1 => k_is)
    (case yn1_index => k_is)
    (case ys1_0 => k_is)
    (case ys1_1 => k_is)
    (case ys1_2 => k_is)
    (case ys1_3 => k_is)
    (case ys1_4 => k_is)
    (case yb2 => k_is)
    (case yc2 => k_is)
    (case yd2 => k_is)
    (case ye2 => k_is)
    (case yf2 => k_is)
    (case yi2 => k_is)
    (case yj2 => k_is)
    (case yk2 => k_is)
    (case yn2_index => k_is)
    (case ys2_0 => k_is)
    (case ys2_1 => k_is)
    (case ys2_2 => k_is)
    (case ys2_3 => k_is)
    (case ys2_4 => k_is)
    (case yb3 => k_is)
    (case yc3 => k_is)
    (case yd3 => k_is)
    (case ye3 => k_is)
    (case yf3 => k_is)
    (case yi3 => k_is)
    (case yj3 => k_is)
    (case yk3 => k_is)
    (case yn3_index => k_is)
    (case ys3_0 => k_is)
    (case ys3_1 => k_is)
    (case ys3_2 => k_is)
    (case ys3_3 => k_is)
    (case ys3_4 => k_is)
    (case yb4 => k_is)
    (case yc4 => k_is)
    (case yd4 => k_is)
    (case ye4 => k_is)
    (case yf4 => k_is)
    (case yi4 => k_is)
    (case yj4 => k_is)
    (case yk4 => k_is)
    (case yn4_index => k_is)
    (case ys4_0 => k_is)
    (case ys4_1 => k_is)
    (case ys4_2 => k_is)
    (case ys4_3 => k_is)
    (case ys4_4 => k_is)
    (case yg => k_is)
    (case yh => k_is)
    (case yl2 => k_is)
    (case yr2 => first | rfl | decide +kernel)
    (case yt2 => k_is)
    (case yo2 => k_is)
    (case ym2 => k_is)
    (case yu2 => k_is)
    (case yv2 => k_is)
    (case yw2 => k_is)
    (case yx2 => k_is)
    (case yy2 => k_is)
    (case n0 => k_is)
    (case n1 => k_is)
    (case n2 => k_is)
    (case n3 => k_is)
    (case n4 => k_is)
    (case n5 => k_is)
    (case n6 => k_is)
    (case n7 => k_is)
    (case n8 => k_is)
    (case n9 => k_is)
    (case n10 => k_is)
    (case n11 => k_is)
    (case n12 => k_is)
    (case n13 => k_is)
    (case n14 => k_is)
    (case n15 => k_is)
    (case q0 => k_is)
    (case q1 => k_is)
    (case q2 => k_is)
    (case q3 => k_is)
