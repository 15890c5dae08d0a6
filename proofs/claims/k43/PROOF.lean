import PyProof.Rows.All
import Wide.All
import OpenK.AllK
import Wide.FinOn
import PyProof.ReprRoads
import HandS.ForMost
import HandS.Walk
import HandS.Flow
import HandS.Style
import HandS.Wide
import HandS.Zip
import HandS.TupAny
import HandS.TupMul
import HandS.Conv
import HandS.SortInts
import HandS.IsInst
import HandS.Strs
import HandS.Exc
import HandS.ExcOwn
import HandS.EndBits
import HandS.Words
import HandS.Deep
import HandS.NoneIn
import PyProof.ReprLen
import HandS.Star
import HandS.SetFor
import PyProof.Rows.SortShellAny
import HandS.ExcInit
import HandS.ExcField
import HandS.ExcIs
import KE.KExcIs
import PyProof.ZipIter
import KE.GoesMore
import KE.GoesEnum
import KE.GoesZip
import HandS.DictTup
import HandS.SortOrd
import HandS.More
import PyProof.EqKinds
import PyProof.EqAt
import PyProof.StrLawsRepr
import PyProof.FactsAll.tuple_2
import HandS.Defaults
import HandS.WideBits
import HandS.GenList
import HandS.GenOver
import PyProof.ListNew
import HandS.Iter
import KE.LtData
import PySem.Challenge.RW_blockturns_k43_exchanges_numbered
set_option Elab.async false
set_option linter.all false
set_option maxRecDepth 100000
set_option maxHeartbeats 8000000
set_option autoImplicit false
set_option synthInstance.maxHeartbeats 2000000
set_option synthInstance.maxSize 4000
/-! Mp0: rules of the hand layer's own kind that it lacks: tuples whose object is known, sum and index of a tuple, t[::-1]. -/
namespace HT
open PySem PySem.Spec PyProof.Rows L2
section
variable {prog : Program} {w : World} {A : Around} {E : Value → Shared → Prop} {s : Shared}
end
end HT
namespace Mp
open PySem PySem.Spec PyProof.Rows L2
/-- a tuple that is read, known to have no dict -/
def SqF (K : PySem.W.Frag) (F : Hp) (a : Addr) (vs : List V) : Prop :=
  (∃ o : Obj, F a = some (.frz o (.tup vs)) ∧ o.dict = none) ∨
    ∃ (o : Obj) (its : Array Value) (n : Nat), K.lookup a = some o ∧ o.cls = .type "tuple" ∧ o.dict = none ∧ o.data = .seq its n ∧ its.size ≤ sizeLine ∧ Vals vs its.toList
theorem SqF.t {K : PySem.W.Frag} {F : Hp} {a : Addr} {vs : List V} (h : SqF K F a vs) : SqT K F a vs := by
  rcases h with ⟨o, h, _⟩ | ⟨o, its, n, h1, h2, _, h3, h4, h5⟩
  · exact .inl (.inr ⟨o, h⟩)
  · exact .inr ⟨o, its, n, h1, h2, h3, h4, h5⟩
theorem SqF.same {K : PySem.W.Frag} {F G : Hp} (e : Same F G) {a : Addr} {vs : List V} (h : SqF K F a vs) : SqF K G a vs := by
  rcases h with ⟨o, h, d⟩ | h
  · exact .inl ⟨o, e _ _ h, d⟩
  · exact .inr h
section
variable {X : Cx} {es : List Expr} {e a : Expr} {t : TA} {pos : Pos}
/-- what a new tuple asks -/
abbrev NewT (H : Hp) (xs : List V) (Q : VK) : Prop := ∀ (p : Addr) (o : Obj), H p = none → o.dict = none → Q (.ref p) (upd H p (.frz o (.tup xs)))
def tTupF (t : TA) : TE := fun σ H Q => t σ H fun xs H1 => xs.length ≤ sizeLine ∧ NewT H1 xs Q
theorem pe_tupF {x1 : Nat} (h : PA X es t) : PE X (.Tuple es x1 pos) (tTupF t) := by
  refine ⟨fun pins s σ H Q I hq => ?_⟩
  refine wpAny_Tuple_spliced (thn (h.run pos pins s σ H _ I hq) fun us s1 ⟨xs, H1, I1, r, z, q⟩ => ⟨by rw [← r.length]; exact z, ?_⟩)
  have hf : H1 s1.heap.objs.size = none := I1.hok.fresh (Nat.le_refl _)
  exact ⟨.ref s1.heap.objs.size, _, I1.laid (t' := s1.toks) (o := .frz { cls := .type "tuple", data := .seq us.toArray } (.tup xs)) (fun b u e => Heap.get?_push_of_some _ e) (Nat.le_refl _) ⟨Heap.get?_push_size _ rfl, z, us, r, ⟨_, Heap.get?_push_size _ rfl, rfl, _, rfl⟩⟩, rfl, q _ _ hf rfl⟩
theorem call_tupleF : CallR X (.type "tuple") (fun xs H Q => ∃ p ys, xs = [.ref p] ∧ ((SqL X.K H p ys ∧ NewT H ys Q) ∨ (SqT X.K H p ys ∧ Q (.ref p) H))) := by
  intro pins s σ H xs us Q I r h
  obtain ⟨p, ys, rfl, h⟩ := h
  obtain ⟨u, rfl, rx⟩ := vals1 r
  cases rx
  rcases h with ⟨hq, q⟩ | ⟨hq, q⟩
  · obtain ⟨its, r', pl, hz⟩ := I.list hq
    have hlen := r'.length
    refine call_tuple_list pl.isList (fun h' kp => ?_) (by simp only [List.size_toArray] <;> omega)
    have I1 : Inv X pins σ H { s with heap := h' } := I.kept (t' := s.toks) kp
    have I2 : Inv X pins σ (upd H h'.objs.size (.frz { cls := .type "tuple", data := .seq its.toArray } (.tup ys))) { s with heap := h'.push { cls := .type "tuple", data := .seq its.toArray } } :=
      I1.laid (t' := s.toks) (fun b o e => Heap.get?_push_of_some _ e) (Nat.le_refl _) ⟨Heap.get?_push_size _ rfl, hz, its, r', IsTup.new _ _⟩
    exact ⟨.ref h'.objs.size, _, I2, rfl, q _ _ (I1.hok.fresh (Nat.le_refl _)) rfl⟩
  · obtain ⟨its, r', pl, hz⟩ := I.tuple hq
    exact call_tuple_same pl ⟨.ref p, H, I, rfl, q⟩
def rCatF (K : PySem.W.Frag) : R2 := fun x y H Q => ∃ a b xs ys, x = .ref a ∧ y = .ref b ∧ SqT K H a xs ∧ SqT K H b ys ∧ xs.length + ys.length ≤ sizeLine ∧
  (xs = [] → Q (.ref b) H) ∧ (xs ≠ [] → ys = [] → Q (.ref a) H) ∧ (xs ≠ [] → ys ≠ [] → NewT H (xs ++ ys) Q)
theorem op_catF : OpR X (binaryOp .Add) (rCatF X.K) := by
  intro pins s σ H x y v u Q I rx ry h
  obtain ⟨a, b, xs, ys, rfl, rfl, ha, hb, hz, q0, q1, q2⟩ := h
  cases rx
  cases ry
  obtain ⟨its, r1, p1, _⟩ := I.tuple ha
  obtain ⟨its2, r2, p2, _⟩ := I.tuple hb
  by_cases hx : xs = []
  · subst hx
    cases r1
    exact cat_tup0 p1 p2 ⟨.ref b, H, I, rfl, q0 rfl⟩
  · refine HT.cat_tup p1 p2 (fun z => hx (r1.nil_iff.mp z)) (fun z => ⟨.ref a, H, I, rfl, q1 hx (r2.nil_iff.mp z)⟩) (fun z => ?_) (by rw [← r1.length, ← r2.length]; exact hz)
    refine ⟨.ref s.heap.objs.size, _, I.laid (t' := s.toks) (o := .frz { cls := .type "tuple", data := .seq (its ++ its2).toArray } (.tup (xs ++ ys))) (fun b ob q => Heap.get?_push_of_some _ q) (Nat.le_refl _) ?_, rfl, q2 hx (fun w => z (r2.nil_iff.mpr w)) _ _ (I.hok.fresh (Nat.le_refl _)) rfl⟩
    exact ⟨Heap.get?_push_size _ rfl, by rw [List.length_append]; exact hz, _, r1.append r2, IsTup.new _ _⟩
def rSlF (K : PySem.W.Frag) : V → Option Int → Option Int → Hp → VK → Prop := fun x lo hi H Q => ∃ a xs, x = .ref a ∧ SqT K H a xs ∧
  (HT.sIx xs.length 0 lo = 0 ∧ HT.sIx xs.length xs.length hi = xs.length → Q (.ref a) H) ∧ (¬ (HT.sIx xs.length 0 lo = 0 ∧ HT.sIx xs.length xs.length hi = xs.length) → NewT H (cutV xs lo hi) Q)
theorem sl_tupF : SlR X (rSlF X.K) := by
  intro pins s σ H x v vl vu lo hi sl Q I rx hs pl pu h
  obtain ⟨a, xs, rfl, hx, q1, q2⟩ := h
  cases rx
  obtain ⟨its, r, ht, hz⟩ := I.tuple hx
  have hlen : its.toArray.size = xs.length := by rw [List.size_toArray]; exact r.length.symm
  refine ⟨"tuple", _, PyProof.Rows.slot_tuple_getitem.lookup, ht.typeIs, ?_⟩
  by_cases hw : HT.sIx xs.length 0 lo = 0 ∧ HT.sIx xs.length xs.length hi = xs.length
  · exact getItem_tuple_whole ht hs pl pu (by rw [hlen]; exact hw) ⟨.ref a, H, I, rfl, q1 hw⟩
  · refine HT.getItem_tuple_cut ht hs pl pu (by rw [hlen]; exact hw) ?_ (by rw [hlen]; exact hz)
    rw [hlen]
    refine ⟨.ref s.heap.objs.size, _, I.laid (t' := s.toks) (o := .frz { cls := .type "tuple", data := .seq ((its.drop (HT.sIx xs.length 0 lo)).take (HT.sIx xs.length xs.length hi - HT.sIx xs.length 0 lo)).toArray } (.tup (cutV xs lo hi))) (fun b ob q => Heap.get?_push_of_some _ q) (Nat.le_refl _) ?_, rfl, q2 hw _ _ (I.hok.fresh (Nat.le_refl _)) rfl⟩
    exact ⟨Heap.get?_push_size _ rfl, Nat.le_trans (cutV_length xs lo hi) hz, _, (r.drop (HT.sIx xs.length 0 lo)).take (HT.sIx xs.length xs.length hi - HT.sIx xs.length 0 lo), IsTup.new _ _⟩
def tTupRgF (te : L2.St → Hp → (Int → Int → Hp → Prop) → Prop) : TE := fun σ H Q => te σ H fun a b H1 => RgOk a b ∧ NewT H1 (rgV a b) Q
theorem pe_tupRgF {p pos : Pos} {te : L2.St → Hp → (Int → Int → Hp → Prop) → Prop} (hc : X.calm = true) (hg : Gl X "tuple") (hm : X.mg "tuple" = none) (he : PRg X e te) (na : starEach [e] X.env = (false, eval e X.env) :: starEach [] X.env) : PE X (.Call (.Name "tuple" p) [e] [] pos) (tTupRgF te) := by
  refine ⟨fun pins s σ H Q I h => ?_⟩
  refine Call_ (ld_blt I hg hm boot_tuple (PyProof.Rows.callWith_type1 (args_cons (thn (he pins s σ H _ I h) fun x s1 ⟨r, a, b, t, u, v, H1, ex, hr, I1, ok, q⟩ => args_nil ?_) na) na))
  subst ex
  obtain ⟨b1, b2, b3, b4, b5⟩ := ok
  refine call_tuple_range (n := (b - a).toNat) (I1.ok.hd hc) hr (small_one b1 b2 b3 b4) (rangeSize_nat a b) b5 fun h' tk acc hk hi => ?_
  have I2 : Inv X pins σ H1 { s1 with heap := h', toks := tk } := I1.kept hk
  refine ⟨.ref h'.objs.size, _, I2.laid (t' := tk) (o := .frz { cls := .type "tuple", data := .seq acc } (.tup (rgV a b))) (fun c o e => Heap.get?_push_of_some _ e) (Nat.le_refl _) ⟨Heap.get?_push_size _ rfl, ?_, acc.toList, vals_rg hi, ?_⟩, rfl, q _ _ (I2.hok.fresh (Nat.le_refl _)) rfl⟩
  · rw [rgV_length, sizeLine_eq]; omega
  · rw [Array.toArray_toList]; exact IsTup.new _ _
/-- t[::-1] of a tuple -/
def tRevT (K : PySem.W.Frag) (te : TE) : TE := fun σ H Q => te σ H fun x H1 => ∃ a xs, x = .ref a ∧ SqT K H1 a xs ∧ NewT H1 xs.reverse Q
/-! ### sum of a tuple -/
theorem preSum_take (ns : List Int) : ∀ n, preSum (fun i => ns.getD i 0) n = (ns.take n).sum
  | 0 => by simp [preSum]
  | n + 1 => by
    have ih := preSum_take ns n
    show preSum (fun i => ns.getD i 0) n + ns.getD n 0 = _
    rw [ih]
    by_cases h : n < ns.length
    · rw [List.take_add_one, List.getElem?_eq_getElem h, List.sum_append]
      simp [List.getD_eq_getElem?_getD, List.getElem?_eq_getElem h]
    · rw [List.take_of_length_le (by omega), List.take_of_length_le (by omega)]
      simp [List.getD_eq_getElem?_getD, List.getElem?_eq_none (by omega : ns.length ≤ n)]
def rSumT (K : PySem.W.Frag) : List V → Hp → VK → Prop := fun vs H Q => ∃ (a : Addr) (ns : List Int), vs = [V.ref a] ∧ SqT K H a (ns.map V.int) ∧ Q (.int ns.sum) H
theorem cr_sumT (hc : X.calm = true) : CallR X (.builtin "sum") (rSumT X.K) := by
  intro pins s σ H vs us Q I r h
  obtain ⟨a, ns, rfl, hs, q⟩ := h
  obtain ⟨its, rv, ht, hz⟩ := I.tuple hs
  rw [Vals.ref1 r]
  have hlen : its.length = ns.length := by have := rv.length; rw [List.length_map] at this; exact this.symm
  have hT : s.heap.IsTuple a its.toArray := ht
  refine call_sum_walkG (wpAny_pyIter_tuple hT ?_)
  have hlt : a < s.heap.objs.size := by
    obtain ⟨o, ho, _⟩ := ht
    exact Heap.lt_size ho
  refine ⟨_, _, _, _, _, _, fun i => ns.getD i 0, rfl, Walks.tuple (A := X.A.in1) (I.ok.hd hc) _ a (Nat.ne_of_lt hlt) its.toArray, ⟨⟨_, Heap.get?_push_size _ rfl, rfl, rfl⟩, ?_⟩, ?_, ?_, fun h' tk t' hk => ?_⟩
  · obtain ⟨o, ho, hc2⟩ := ht
    exact ⟨o, Heap.get?_push_of_some _ ho, hc2⟩
  · intro b hb
    show b < (s.heap.push _).objs.size
    rw [Heap.size_push]
    rcases List.mem_cons.mp hb with e | hb
    · subst e; exact Nat.lt_succ_self _
    · rcases List.mem_cons.mp hb with e | hb
      · subst e; exact Nat.lt_succ_of_lt hlt
      · cases hb
  · intro i v hv
    have hi : i < ns.length := by
      have := (Array.getElem?_eq_some_iff.mp hv).1
      simpa [hlen] using this
    obtain ⟨u, hu, t, hu2⟩ := rv.get (i := i) (x := .int ns[i]) (by simp [hi])
    have e : its[i]? = some v := by simpa using hv
    rw [hu] at e
    cases e
    exact ⟨t, by rw [hu2]; simp [List.getD_eq_getElem?_getD, hi]⟩
  · have e : preSum (fun i => ns.getD i 0) its.toArray.size = ns.sum := by
      rw [preSum_take, List.size_toArray, hlen, List.take_of_length_le (Nat.le_refl _)]
    rw [e]
    exact ⟨.int _, H, I.kept fun b o eo => hk b o (fun hm => by
      rcases List.mem_cons.mp hm with e1 | hm
      · exact absurd (e1 ▸ Heap.lt_size eo) (Nat.lt_irrefl _)
      · cases hm) (Heap.get?_push_of_some _ eo), ⟨_, rfl⟩, q⟩

/-! ### t.index(x) of flat things -/
def rIndexT (K : PySem.W.Frag) : V → List V → Hp → VK → Prop := fun x xs H Q => ∃ (a : Addr) (ys : List V) (y : V) (j : Nat) (z : V), x = V.ref a ∧ xs = [y] ∧ SqT K H a ys ∧ flatV y = true ∧ ys.all flatV = true ∧ ys[j]? = some z ∧ eqV z y = true ∧
  (∀ (m : Nat) (z' : V), m < j → ys[m]? = some z' → eqV z' y = false) ∧ Q (.int (j : Nat)) H
/-- t.m(e, ..) of a tuple -/
def tBMT (K : PySem.W.Frag) (r : V → List V → Hp → VK → Prop) (to : TE) (t : TA) : TE := fun σ H Q => to σ H fun x H1 => (∃ a vs, x = .ref a ∧ SqF K H1 a vs) ∧ t σ H1 fun xs H2 => r x xs H2 Q
end
end Mp

/-! Mp: a small value language over the hand layer. Data, how it lies in the abstract heap, the ghost state of a def's run. -/
namespace Mp
open PySem PySem.Spec L2

/-- data: what a value is, without addresses -/
inductive D where
  | non | bl (b : Bool) | int (i : Int) | str (x : Str) | tup (xs : List D) | lst (xs : List D) | dct (kvs : List (Key × D)) | jar | obj (a : Addr) | ins (c : Nat) (fs : List (Str × D)) | dtp (kvs : List (List Key × D)) | exc (c : Nat) (fs : List D)
  deriving Inhabited

/-- the random source of a law (J its state), and the classes -/
structure Js (J : Type) where
  K : PySem.W.Frag
  R : V
  cl : Nat → Addr
  xc : Nat → Addr
  xf : Nat → Str
  rep : J → Hp → (Addr → Prop) → Hp → Prop
  frame : ∀ {j : J} {F F' : Hp} {A : Addr → Prop} {H H' : Hp}, rep j F A H → Same F F' → (∀ b, A b → H' b = H b) → rep j F' A H'
  dom : ∀ {j : J} {F : Hp} {A : Addr → Prop} {H : Hp} {b : Addr}, rep j F A H → A b → H b ≠ none

/-- an exception object of the class at C, its dict at dx -/
def ExT (C : Addr) (dx : Option Addr) (a : Addr) : HO := .ext fun h => ∃ (oe : Obj) (vs : Array Value), h.get? a = some oe ∧ Zc (.ref C) dx oe ∧ oe.data = .fields vs
variable {J : Type}
mutual
inductive Rp (S : Js J) (F : Hp) : D → V → Prop
  | non : Rp S F .non .non
  | bl (b : Bool) : Rp S F (.bl b) (.bl b)
  | int (i : Int) : Rp S F (.int i) (.int i)
  | str (x : Str) : Rp S F (.str x) (.str x)
  | tup {a : Addr} {ds : List D} {vs : List V} : SqF S.K F a vs → RpL S F ds vs → Rp S F (.tup ds) (.ref a)
  | lst {a : Addr} {ds : List D} {vs : List V} : F a = some (.lst vs) → RpL S F ds vs → Rp S F (.lst ds) (.ref a)
  | dct {a : Addr} {kds : List (Key × D)} {kvs : List (Key × V)} : F a = some (.dK kvs) → kds.map Prod.fst = kvs.map Prod.fst → RpL S F (kds.map Prod.snd) (kvs.map Prod.snd) → Rp S F (.dct kds) (.ref a)
  | jar : Rp S F .jar S.R
  | obj (a : Addr) : Rp S F (.obj a) (.ref a)
  | ins {a dx : Addr} {c : Nat} {kds : List (Str × D)} {kvs : List (Str × V)} : F a = some (.ins (S.cl c) dx kvs) → kds.map Prod.fst = kvs.map Prod.fst → RpL S F (kds.map Prod.snd) (kvs.map Prod.snd) → Rp S F (.ins c kds) (.ref a)
  | dtp {a : Addr} {kds : List (List Key × D)} {kvs : List (List Key × V)} : F a = some (.dT kvs) → kds.map Prod.fst = kvs.map Prod.fst → RpL S F (kds.map Prod.snd) (kvs.map Prod.snd) → Rp S F (.dtp kds) (.ref a)
  | exc0 {a : Addr} {c : Nat} : F a = some (ExT (S.xc c) none a) → Rp S F (.exc c []) (.ref a)
  | exc1 {a dd : Addr} {c : Nat} {d : D} {v : V} : F a = some (ExT (S.xc c) (some dd) a) → F dd = some (.xd [(S.xf c, v)]) → Rp S F d v → Rp S F (.exc c [d]) (.ref a)
inductive RpL (S : Js J) (F : Hp) : List D → List V → Prop
  | nil : RpL S F [] []
  | cons {d : D} {ds : List D} {v : V} {vs : List V} : Rp S F d v → RpL S F ds vs → RpL S F (d :: ds) (v :: vs)
end

theorem RpL.length {S : Js J} {F : Hp} : ∀ {ds : List D} {vs : List V}, RpL S F ds vs → ds.length = vs.length
  | _, _, .nil => rfl
  | _, _, .cons _ t => by rw [List.length_cons, List.length_cons, t.length]

theorem sqL_same {K : PySem.W.Frag} {F G : Hp} (e : Same F G) {a : Addr} {xs : List V} (h : SqL K F a xs) : SqL K G a xs := e.seq h
theorem sqT_same {K : PySem.W.Frag} {F G : Hp} (e : Same F G) {a : Addr} {xs : List V} (h : SqT K F a xs) : SqT K G a xs := by
  rcases h with (h | ⟨o, h⟩) | h
  · exact .inl (.inl (e _ _ h))
  · exact .inl (.inr ⟨o, e _ _ h⟩)
  · exact .inr h

mutual
theorem Rp.mono {S : Js J} {F G : Hp} (e : Same F G) : ∀ {d : D} {v : V}, Rp S F d v → Rp S G d v
  | _, _, .non => .non
  | _, _, .bl b => .bl b
  | _, _, .int i => .int i
  | _, _, .str x => .str x
  | _, _, .tup h t => .tup (h.same e) (RpL.mono e t)
  | _, _, .lst h t => .lst (e _ _ h) (RpL.mono e t)
  | _, _, .dct h l t => .dct (e _ _ h) l (RpL.mono e t)
  | _, _, .jar => .jar
  | _, _, .obj a => .obj a
  | _, _, .ins h l t => .ins (e _ _ h) l (RpL.mono e t)
  | _, _, .dtp h l t => .dtp (e _ _ h) l (RpL.mono e t)
  | _, _, .exc0 h => .exc0 (e _ _ h)
  | _, _, .exc1 h h2 t => .exc1 (e _ _ h) (e _ _ h2) (Rp.mono e t)
theorem RpL.mono {S : Js J} {F G : Hp} (e : Same F G) : ∀ {ds : List D} {vs : List V}, RpL S F ds vs → RpL S G ds vs
  | _, _, .nil => .nil
  | _, _, .cons h t => .cons (Rp.mono e h) (RpL.mono e t)
end

section
variable {S : Js J} {F : Hp}
theorem RpL.get : ∀ {ds : List D} {vs : List V} {i : Nat} {d : D}, RpL S F ds vs → ds[i]? = some d → ∃ v, vs[i]? = some v ∧ Rp S F d v
  | _, _, _, _, .nil, e => by simp at e
  | _, _, 0, _, .cons r _, e => by simp at e; subst e; exact ⟨_, rfl, r⟩
  | _, _, i + 1, d, .cons _ t, e => by
    obtain ⟨u, h1, h2⟩ := RpL.get (i := i) (d := d) t (by simpa using e)
    exact ⟨u, by simpa using h1, h2⟩
theorem RpL.get' : ∀ {ds : List D} {vs : List V} {i : Nat} {v : V}, RpL S F ds vs → vs[i]? = some v → ∃ d, ds[i]? = some d ∧ Rp S F d v
  | _, _, _, _, .nil, e => by simp at e
  | _, _, 0, _, .cons r _, e => by simp at e; subst e; exact ⟨_, rfl, r⟩
  | _, _, i + 1, d, .cons _ t, e => by
    obtain ⟨u, h1, h2⟩ := RpL.get' (i := i) (v := d) t (by simpa using e)
    exact ⟨u, by simpa using h1, h2⟩
theorem RpL.append : ∀ {ds es : List D} {vs ws : List V}, RpL S F ds vs → RpL S F es ws → RpL S F (ds ++ es) (vs ++ ws)
  | _, _, _, _, .nil, h => h
  | _, _, _, _, .cons r t, h => .cons r (RpL.append t h)
theorem RpL.take : ∀ (n : Nat) {ds : List D} {vs : List V}, RpL S F ds vs → RpL S F (ds.take n) (vs.take n)
  | 0, _, _, _ => .nil
  | _ + 1, _, _, .nil => .nil
  | n + 1, _, _, .cons r t => .cons r (RpL.take n t)
theorem RpL.drop : ∀ (n : Nat) {ds : List D} {vs : List V}, RpL S F ds vs → RpL S F (ds.drop n) (vs.drop n)
  | 0, _, _, h => h
  | _ + 1, _, _, .nil => .nil
  | n + 1, _, _, .cons r t => RpL.drop n t
theorem RpL.reverse {ds : List D} {vs : List V} (h : RpL S F ds vs) : RpL S F ds.reverse vs.reverse := by
  induction ds generalizing vs with
  | nil => cases h; exact .nil
  | cons d ds ih =>
    cases h with
    | cons r t =>
      rw [List.reverse_cons, List.reverse_cons]
      exact (ih t).append (.cons r .nil)
theorem RpL.set {d : D} {v : V} (r : Rp S F d v) : ∀ (n : Nat) {ds : List D} {vs : List V}, RpL S F ds vs → RpL S F (ds.set n d) (vs.set n v)
  | _, _, _, .nil => .nil
  | 0, _, _, .cons _ t => .cons r t
  | n + 1, _, _, .cons q t => .cons q (RpL.set r n t)
theorem RpL.eraseIdx : ∀ (n : Nat) {ds : List D} {vs : List V}, RpL S F ds vs → RpL S F (ds.eraseIdx n) (vs.eraseIdx n)
  | _, _, _, .nil => .nil
  | 0, _, _, .cons _ t => t
  | n + 1, _, _, .cons q t => .cons q (RpL.eraseIdx n t)
theorem RpL.dropLast {ds : List D} {vs : List V} (h : RpL S F ds vs) : RpL S F ds.dropLast vs.dropLast := by
  rw [List.dropLast_eq_take, List.dropLast_eq_take, h.length]
  exact h.take _
theorem RpL.ints : ∀ (ns : List Int), RpL S F (ns.map D.int) (ns.map V.int)
  | [] => .nil
  | n :: ns => .cons (.int n) (RpL.ints ns)
theorem RpL.of_ints : ∀ {ns : List Int} {vs : List V}, RpL S F (ns.map D.int) vs → vs = ns.map V.int
  | [], _, h => by cases h; rfl
  | n :: ns, _, h => by
    cases h with
    | cons r t => cases r; rw [RpL.of_ints t]; rfl
end

/-- a source that does not look at what is frozen -/
class PureJ (S : Js J) : Prop where
  pu : ∀ {j : J} {F F' : Hp} {A : Addr → Prop} {H : Hp}, S.rep j F A H → S.rep j F' A H
/-! ### the ghost state -/
/-- F: what is frozen; G: what is seen (F, and what this def owns); A: where the random source lies -/
structure Gh where
  F : Hp
  G : Hp
  A : Addr → Prop
/-- the entry of a def -/
structure Bs where
  F0 : Hp
  H0 : Hp
  A0 : Addr → Prop
structure OkB (S : Js J) (B : Bs) (g : Gh) (H : Hp) (j : J) : Prop where
  fg : Same g.F g.G
  gh : Same g.G H
  ga : ∀ b o, g.G b = some o → ¬ g.A b
  jr : S.rep j g.F g.A H
  f0 : Same B.F0 g.F
  g0 : ∀ b o, g.G b = some o → B.F0 b = some o ∨ B.H0 b = none
  a0 : ∀ b, g.A b → B.A0 b ∨ B.H0 b = none
  h0 : ∀ b o, B.H0 b = some o → ¬ B.A0 b → H b = some o
  h1 : ∀ b, H b = none → B.H0 b = none
  sm : ∃ o u, H sysModules = some (.frz o u)

/-- a mutable thing at a that a slot alone holds -/
def Own (S : Js J) (g : Gh) (d : D) (a : Addr) : Prop :=
  g.F a = none ∧ ((∃ ds vs, d = .lst ds ∧ g.G a = some (.lst vs) ∧ RpL S g.F ds vs) ∨
    (∃ kds kvs, d = .dct kds ∧ g.G a = some (.dK kvs) ∧ kds.map Prod.fst = kvs.map Prod.fst ∧ RpL S g.F (kds.map Prod.snd) (kvs.map Prod.snd)) ∨
    (∃ kds kvs, d = .dtp kds ∧ g.G a = some (.dT kvs) ∧ kds.map Prod.fst = kvs.map Prod.fst ∧ RpL S g.F (kds.map Prod.snd) (kvs.map Prod.snd)))
abbrev Sd := List (Option D)
structure Slots (S : Js J) (g : Gh) (M : Nat → Bool) (r : St) (m : Sd) : Prop where
  len : r.length = m.length
  fr : ∀ i d, m[i]? = some (some d) → M i = false → ∃ v, r[i]? = some (some v) ∧ Rp S g.F d v
  ow : ∀ i d, m[i]? = some (some d) → M i = true → ∃ a, r[i]? = some (some (.ref a)) ∧ Own S g d a
  dj : ∀ i j a d e, m[i]? = some (some d) → m[j]? = some (some e) → M i = true → M j = true → r[i]? = some (some (.ref a)) → r[j]? = some (some (.ref a)) → i = j
structure Ok (S : Js J) (B : Bs) (g : Gh) (M : Nat → Bool) (r : St) (H : Hp) (m : Sd) (j : J) : Prop where
  b : OkB S B g H j
  s : Slots S g M r m

structure Le (p q : Gh) : Prop where
  f : Same p.F q.F
  g : Same p.G q.G
  n : ∀ b o, q.F b = some o → p.F b = some o ∨ p.G b = none
theorem Le.refl (g : Gh) : Le g g := ⟨Same.refl _, Same.refl _, fun _ _ e => .inl e⟩
theorem Le.trans {g1 g2 g3 : Gh} (x : Le g1 g2) (y : Le g2 g3) : Le g1 g3 :=
  ⟨x.f.trans y.f, x.g.trans y.g, fun b o e => by
    rcases y.n b o e with h | h
    · exact x.n b o h
    · right
      exact x.g.free h⟩

inductive Cl | fresh | clean | mix
  deriving DecidableEq
/-- what is known of a value, by its class; g the ghost ahead of its evaluation, g' behind -/
def Val (S : Js J) (g g' : Gh) : Cl → D → V → Prop
  | .fresh, d, v => ∃ a, v = .ref a ∧ g.G a = none ∧ Own S g' d a
  | .clean, d, v => Rp S g'.F d v
  | .mix, d, v => Rp S g'.G d v

section
variable {S : Js J} {B : Bs} {g g' g'' : Gh} {H H' : Hp} {j j' : J} {d : D} {v : V} {a : Addr} {M : Nat → Bool} {r : St} {m : Sd}
theorem Own.rp (h : Own S g d a) (fg : Same g.F g.G) : Rp S g.G d (.ref a) := by
  obtain ⟨_, ⟨ds, vs, rfl, e, t⟩ | ⟨kds, kvs, rfl, e, l, t⟩ | ⟨kds, kvs, rfl, e, l, t⟩⟩ := h
  · exact .lst e (t.mono fg)
  · exact .dct e l (t.mono fg)
  · exact .dtp e l (t.mono fg)
theorem Own.in_g (h : Own S g d a) : ∃ o, g.G a = some o := by
  obtain ⟨_, ⟨ds, vs, rfl, e, t⟩ | ⟨kds, kvs, rfl, e, l, t⟩ | ⟨kds, kvs, rfl, e, l, t⟩⟩ := h
  · exact ⟨_, e⟩
  · exact ⟨_, e⟩
  · exact ⟨_, e⟩
theorem Own.le (h : Own S g d a) (l : Le g g') : Own S g' d a := by
  obtain ⟨o, ho⟩ := h.in_g
  have n : g'.F a = none := by
    cases q : g'.F a with
    | none => rfl
    | some u =>
      rcases l.n a u q with z | z
      · rw [h.1] at z; cases z
      · rw [ho] at z; cases z
  refine ⟨n, ?_⟩
  obtain ⟨_, ⟨ds, vs, rfl, e, t⟩ | ⟨kds, kvs, rfl, e, l', t⟩ | ⟨kds, kvs, rfl, e, l', t⟩⟩ := h
  · exact .inl ⟨ds, vs, rfl, l.g _ _ e, t.mono l.f⟩
  · exact .inr (.inl ⟨kds, kvs, rfl, l.g _ _ e, l', t.mono l.f⟩)
  · exact .inr (.inr ⟨kds, kvs, rfl, l.g _ _ e, l', t.mono l.f⟩)
theorem Slots.le (h : Slots S g M r m) (l : Le g g') : Slots S g' M r m :=
  ⟨h.len, fun i d e q => let ⟨v, h1, h2⟩ := h.fr i d e q; ⟨v, h1, h2.mono l.f⟩, fun i d e q => let ⟨a, h1, h2⟩ := h.ow i d e q; ⟨a, h1, h2.le l⟩, h.dj⟩
theorem Val.mix {c : Cl} (h : Val S g g' c d v) (fg : Same g'.F g'.G) : Rp S g'.G d v := by
  cases c with
  | fresh => obtain ⟨a, rfl, _, o⟩ := h; exact o.rp fg
  | clean => exact Rp.mono fg h
  | mix => exact h
theorem Val.le {c : Cl} (h : Val S g g' c d v) (l : Le g' g'') : Val S g g'' c d v := by
  cases c with
  | fresh => obtain ⟨a, rfl, n, o⟩ := h; exact ⟨a, rfl, n, o.le l⟩
  | clean => exact Rp.mono l.f h
  | mix => exact Rp.mono l.g h
theorem Val.back {g0 : Gh} {c : Cl} (h : Val S g g' c d v) (l : Le g0 g) : Val S g0 g' c d v := by
  cases c with
  | fresh => obtain ⟨a, rfl, n, o⟩ := h; exact ⟨a, rfl, l.g.free n, o⟩
  | clean => exact h
  | mix => exact h

theorem OkB.hn (k : OkB S B g H j) {p : Addr} (h : H p = none) : g.F p = none ∧ g.G p = none ∧ ¬ g.A p ∧ B.H0 p = none := by
  have hg : g.G p = none := k.gh.free h
  refine ⟨k.fg.free hg, hg, fun z => k.jr |> fun q => S.dom q z h, k.h1 p h⟩
/-- a new object that is seen, not frozen -/
def Gh.see (g : Gh) (p : Addr) (o : HO) : Gh := ⟨g.F, upd g.G p o, g.A⟩
/-- a new object, frozen -/
def Gh.frz (g : Gh) (p : Addr) (o : HO) : Gh := ⟨upd g.F p o, upd g.G p o, g.A⟩
theorem same_upd {F G : Hp} {p : Addr} {o : HO} (e : Same F G) : Same (upd F p o) (upd G p o) := fun b u h => by
  by_cases hb : b = p
  · subst hb; rw [upd_same] at h ⊢; exact h
  · rw [upd_ne hb] at h ⊢; exact e b u h
theorem same_new {F : Hp} {p : Addr} {o : HO} (n : F p = none) : Same F (upd F p o) := fun b u h => by
  rw [upd_ne (ne_of_none h n)]; exact h
theorem Le.see {p : Addr} {o : HO} (n : g.G p = none) : Le g (g.see p o) := ⟨Same.refl _, same_new n, fun _ _ e => .inl e⟩
theorem Le.frz {p : Addr} {o : HO} (fg : Same g.F g.G) (n : g.G p = none) : Le g (g.frz p o) :=
  ⟨same_new (fg.free n), same_new n, fun b u e => by
    by_cases hb : b = p
    · subst hb; exact .inr n
    · left
      have e' : upd g.F p o b = some u := e
      rw [upd_ne hb] at e'
      exact e'⟩
theorem OkB.see (k : OkB S B g H j) {p : Addr} (o : HO) (h : H p = none) : OkB S B (g.see p o) (upd H p o) j := by
  obtain ⟨hf, hg, ha, h0⟩ := k.hn h
  refine ⟨k.fg.trans (same_new hg), same_upd k.gh, fun b u e => ?_, S.frame k.jr (Same.refl _) fun b z => upd_ne fun q => ha (q ▸ z), k.f0, fun b u e => ?_, k.a0, fun b u e n => ?_, fun b e => ?_, ?_⟩
  · by_cases hb : b = p
    · subst hb; exact ha
    · have e' : upd g.G p o b = some u := e
      rw [upd_ne hb] at e'
      exact k.ga b u e'
  · by_cases hb : b = p
    · subst hb; exact .inr h0
    · have e' : upd g.G p o b = some u := e
      rw [upd_ne hb] at e'
      exact k.g0 b u e'
  · rw [upd_ne (ne_of_none e h0)]; exact k.h0 b u e n
  · by_cases hb : b = p
    · subst hb; exact h0
    · rw [upd_ne hb] at e; exact k.h1 b e
  · obtain ⟨o1, u1, e1⟩ := k.sm
    exact ⟨o1, u1, by rw [upd_ne (ne_of_none e1 h)]; exact e1⟩
theorem OkB.frz (k : OkB S B g H j) {p : Addr} (o : HO) (h : H p = none) : OkB S B (g.frz p o) (upd H p o) j := by
  obtain ⟨hf, hg, ha, h0⟩ := k.hn h
  have q := k.see o h
  exact ⟨same_upd k.fg, q.gh, q.ga, S.frame q.jr (same_new hf) fun _ _ => rfl, k.f0.trans (same_new hf), q.g0, q.a0, q.h0, q.h1, q.sm⟩
/-- freeze an owned thing -/
def Gh.ice (g : Gh) (a : Addr) : Gh := ⟨fun b => if b = a then g.G a else g.F b, g.G, g.A⟩
theorem ice_same {a : Addr} (n : g.F a = none) : Same g.F (g.ice a).F := fun b o e => by
  show (if b = a then g.G a else g.F b) = some o
  by_cases hb : b = a
  · subst hb; rw [n] at e; cases e
  · rw [if_neg hb]; exact e
theorem ice_at {a : Addr} : (g.ice a).F a = g.G a := if_pos rfl
theorem OkB.ice (k : OkB S B g H j) {a : Addr} (n : g.F a = none) : OkB S B (g.ice a) H j :=
  ⟨fun b o e => by
    have e' : (if b = a then g.G a else g.F b) = some o := e
    by_cases hb : b = a
    · subst hb; rw [if_pos rfl] at e'; exact e'
    · rw [if_neg hb] at e'; exact k.fg b o e', k.gh, k.ga, S.frame k.jr (ice_same n) fun _ _ => rfl, k.f0.trans (ice_same n), k.g0, k.a0, k.h0, k.h1, k.sm⟩
theorem Own.ice (h : Own S g d a) : Rp S (g.ice a).F d (.ref a) := by
  obtain ⟨n, ⟨ds, vs, rfl, e, t⟩ | ⟨kds, kvs, rfl, e, l, t⟩ | ⟨kds, kvs, rfl, e, l, t⟩⟩ := h
  · exact .lst (ice_at.trans e) (t.mono (ice_same n))
  · exact .dct (ice_at.trans e) l (t.mono (ice_same n))
  · exact .dtp (ice_at.trans e) l (t.mono (ice_same n))
theorem Le.ice {a : Addr} (l : Le g g') (n : g.G a = none) (n' : g'.F a = none) : Le g (g'.ice a) :=
  ⟨l.f.trans (ice_same n'), l.g, fun b o e => by
    have e' : (if b = a then g'.G a else g'.F b) = some o := e
    by_cases hb : b = a
    · subst hb; exact .inr n
    · rw [if_neg hb] at e'; exact l.n b o e'⟩
/-- the slots do not see the freezing of what none of them holds -/
theorem Slots.ice {a : Addr} (h : Slots S g M r m) (l : Le g g') (n : g.G a = none) (n' : g'.F a = none) : Slots S (g'.ice a) M r m := h.le (l.ice n n')
end

/-! ### an exception: its class, its field's value -/
structure Ex where
  c : Nat
  d : Option D
def ExR (S : Js J) (F : Hp) (e : Ex) (cls : Value) (dx : Option Addr) : Prop :=
  cls = .ref (S.xc e.c) ∧ match e.d with
    | none => dx = none
    | some d => ∃ a v, dx = some a ∧ F a = some (.xd [(S.xf e.c, v)]) ∧ Rp S F d v
theorem ExR.mono {S : Js J} {F G : Hp} {e : Ex} {cls : Value} {dx : Option Addr} (h : ExR S F e cls dx) (s : Same F G) : ExR S G e cls dx := by
  obtain ⟨h1, h2⟩ := h
  refine ⟨h1, ?_⟩
  split at h2
  · exact h2
  · obtain ⟨a, v, h3, h4, h5⟩ := h2
    exact ⟨a, v, h3, s _ _ h4, h5.mono s⟩
end Mp

/-! N2: closures by what they bring about (with what is raised); the readings; operators, arguments, displays. -/
namespace Mp
open PySem PySem.Spec L2
variable {J : Type}

abbrev XP (J : Type) := Ex → Sd → J → Prop
abbrev Ev (J : Type) := Sd → J → (D → J → Prop) → XP J → Prop
abbrev Tv (J : Type) := Sd → J → (Bool → J → Prop) → XP J → Prop
abbrev Av (J : Type) := Sd → J → (List D → J → Prop) → XP J → Prop

/-- what is told of a closure: more is brought about, if more is wished -/
class MoE (f : Ev J) : Prop where
  mo : ∀ {m : Sd} {j : J} {P P' : D → J → Prop} {E E' : XP J}, f m j P E → (∀ d j', P d j' → P' d j') → (∀ e m' j', E e m' j' → E' e m' j') → f m j P' E'
class MoT (f : Tv J) : Prop where
  mo : ∀ {m : Sd} {j : J} {P P' : Bool → J → Prop} {E E' : XP J}, f m j P E → (∀ d j', P d j' → P' d j') → (∀ e m' j', E e m' j' → E' e m' j') → f m j P' E'
class MoA (f : Av J) : Prop where
  mo : ∀ {m : Sd} {j : J} {P P' : List D → J → Prop} {E E' : XP J}, f m j P E → (∀ d j', P d j' → P' d j') → (∀ e m' j', E e m' j' → E' e m' j') → f m j P' E'

section
variable (S : Js J) (B : Bs) (M : Nat → Bool) (W : WX)
/-- what is raised is taken -/
def XOut (g : Gh) (E : XP J) : Prop := ∀ e m' j' g' r' H' cls dx, E e m' j' → Same g.F g'.F → Ok S B g' M r' H' m' j' → ExR S g'.F e cls dx → W cls dx r' H'
def rdE (c : Cl) (f : Ev J) : TE := fun r H Q => ∃ g m j P E, Ok S B g M r H m j ∧ f m j P E ∧ (∀ d j' g' v H', P d j' → Le g g' → Ok S B g' M r H' m j' → Val S g g' c d v → Q v H') ∧ XOut S B M W g E
def rdT (f : Tv J) : TT := fun r H Q => ∃ g m j P E, Ok S B g M r H m j ∧ f m j P E ∧ (∀ d j' g' H', P d j' → Le g g' → Ok S B g' M r H' m j' → Q d H') ∧ XOut S B M W g E
/-- arguments: frozen (c = true), or seen -/
def hp (c : Bool) (g : Gh) : Hp := if c then g.F else g.G
def rdA (c : Bool) (f : Av J) : TA := fun r H Q => ∃ g m j P E, Ok S B g M r H m j ∧ f m j P E ∧ (∀ ds j' g' vs H', P ds j' → Le g g' → Ok S B g' M r H' m j' → RpL S (hp c g') ds vs → Q vs H') ∧ XOut S B M W g E
end
theorem XOut.le {S : Js J} {B : Bs} {M : Nat → Bool} {W : WX} {g g' : Gh} {E : XP J} (h : XOut S B M W g E) (l : Same g.F g'.F) : XOut S B M W g' E := fun e m j g2 r H cls dx he l2 => h e m j g2 r H cls dx he (l.trans l2)
def W0 : WX := fun _ _ _ _ => False
theorem takesW0 {X : Cx} : Takes X W0 := fun u s' ⟨a, B, sI, pins, σ, H, cls, d, e, I, nb, up, sky, na, os, ag, w⟩ => w.elim
def xNo : XP J := fun _ _ _ => False
theorem XOut.no {S : Js J} {B : Bs} {M : Nat → Bool} {W : WX} {g : Gh} : XOut S B M W g (xNo : XP J) := fun _ _ _ _ _ _ _ _ h => h.elim

theorem PE.imp {X : Cx} {e : Expr} {t t' : TE} (h : PE X e t) (i : ∀ r H Q, t' r H Q → t r H Q) : PE X e t' := ⟨fun pins s σ H Q I q => h.run pins s σ H Q I (i _ _ _ q)⟩
theorem PE.or {X : Cx} {e : Expr} {t t' : TE} (h : PE X e t) (h' : PE X e t') : PE X e (fun r H Q => t r H Q ∨ t' r H Q) := ⟨fun pins s σ H Q I q => q.elim (h.run pins s σ H Q I) (h'.run pins s σ H Q I)⟩
theorem PT.imp {X : Cx} {e : Expr} {t t' : TT} (h : PT X e t) (i : ∀ r H Q, t' r H Q → t r H Q) : PT X e t' := ⟨fun pins s σ H Q I q => h.run pins s σ H Q I (i _ _ _ q)⟩
theorem PW.imp {X : Cx} {e : Expr} {t t' : TT} (h : PW X e t) (i : ∀ r H Q, t' r H Q → t r H Q) : PW X e t' := ⟨fun wh pins s σ H Q I q => h.run wh pins s σ H Q I (i _ _ _ q)⟩
theorem PA.imp {X : Cx} {e : List Expr} {t t' : TA} (h : PA X e t) (i : ∀ r H Q, t' r H Q → t r H Q) : PA X e t' := ⟨fun p pins s σ H Q I q => h.run p pins s σ H Q I (i _ _ _ q)⟩
theorem PS.imp {X : Cx} {e : Stmt} {t t' : TS} (h : PS X e t) (i : ∀ D r H, t' D r H → t D r H) : PS X e t' := ⟨fun pins s σ H D I q => h.run pins s σ H D I (i _ _ _ q)⟩
theorem PSs.imp {X : Cx} {e : List Stmt} {t t' : TS} (h : PSs X e t) (i : ∀ D r H, t' D r H → t D r H) : PSs X e t' := ⟨fun pins s σ H D I q => h.run pins s σ H D I (i _ _ _ q)⟩
theorem PI.imp {X : Cx} {tg e : Expr} {t t' : TI} (h : PI X tg e t) (i : ∀ r H R, t' r H R → t r H R) : PI X tg e t' := ⟨fun pins s σ H R I q => h.run pins s σ H R I (i _ _ _ q)⟩
theorem PI.or {X : Cx} {tg e : Expr} {t t' : TI} (h : PI X tg e t) (h' : PI X tg e t') : PI X tg e (fun r H Q => t r H Q ∨ t' r H Q) := ⟨fun pins s σ H Q I q => q.elim (h.run pins s σ H Q I) (h'.run pins s σ H Q I)⟩

/-! ### combinators of expressions -/
def eVar (i : Nat) (m : Sd) (j : J) (P : D → J → Prop) (E : XP J) : Prop := ∃ d, m[i]? = some (some d) ∧ P d j
def eC (d : D) (m : Sd) (j : J) (P : D → J → Prop) (E : XP J) : Prop := P d j
def eOp (φ : D → D → Option D) (fa fb : Ev J) (m : Sd) (j : J) (P : D → J → Prop) (E : XP J) : Prop := fa m j (fun x j1 => fb m j1 (fun y j2 => ∃ z, φ x y = some z ∧ P z j2) E) E
def eUn (φ : D → Option D) (fa : Ev J) (m : Sd) (j : J) (P : D → J → Prop) (E : XP J) : Prop := fa m j (fun x j1 => ∃ z, φ x = some z ∧ P z j1) E
def aNil (m : Sd) (j : J) (P : List D → J → Prop) (E : XP J) : Prop := P [] j
def aCons (fa : Ev J) (fr : Av J) (m : Sd) (j : J) (P : List D → J → Prop) (E : XP J) : Prop := fa m j (fun x j1 => fr m j1 (fun xs j2 => P (x :: xs) j2) E) E
def LINE : Nat := 1000000
theorem line_ok : LINE ≤ sizeLine := by rw [sizeLine_eq]; decide
def eTup (f : Av J) (m : Sd) (j : J) (P : D → J → Prop) (E : XP J) : Prop := f m j (fun xs j1 => xs.length ≤ LINE ∧ P (.tup xs) j1) E
def eLst (f : Av J) (m : Sd) (j : J) (P : D → J → Prop) (E : XP J) : Prop := f m j (fun xs j1 => xs.length ≤ LINE ∧ P (.lst xs) j1) E
def eB (φ : List D → Option D) (fa : Av J) (m : Sd) (j : J) (P : D → J → Prop) (E : XP J) : Prop := fa m j (fun xs j1 => ∃ z, φ xs = some z ∧ P z j1) E
section
variable {φ : D → D → Option D} {ψ : D → Option D} {fa fb : Ev J} {fr : Av J} {d : D} {i : Nat} {χ : List D → Option D}
instance : MoE (eVar (J := J) i) := ⟨fun ⟨d, h, p⟩ q _ => ⟨d, h, q _ _ p⟩⟩
instance : MoE (eC (J := J) d) := ⟨fun p q _ => q _ _ p⟩
instance [ha : MoE fa] [hb : MoE fb] : MoE (eOp φ fa fb) := ⟨fun h q x => ha.mo h (fun _ _ h1 => hb.mo h1 (fun _ _ ⟨z, e, p⟩ => ⟨z, e, q _ _ p⟩) x) x⟩
instance [ha : MoE fa] : MoE (eUn ψ fa) := ⟨fun h q x => ha.mo h (fun _ _ ⟨z, e, p⟩ => ⟨z, e, q _ _ p⟩) x⟩
instance : MoA (aNil (J := J)) := ⟨fun p q _ => q _ _ p⟩
instance [ha : MoE fa] [hb : MoA fr] : MoA (aCons fa fr) := ⟨fun h q x => ha.mo h (fun _ _ h1 => hb.mo h1 (fun _ _ p => q _ _ p) x) x⟩
instance [hb : MoA fr] : MoE (eTup fr) := ⟨fun h q x => hb.mo h (fun _ _ p => ⟨p.1, q _ _ p.2⟩) x⟩
instance [hb : MoA fr] : MoE (eLst fr) := ⟨fun h q x => hb.mo h (fun _ _ p => ⟨p.1, q _ _ p.2⟩) x⟩
instance [hb : MoA fr] : MoE (eB χ fr) := ⟨fun h q x => hb.mo h (fun _ _ ⟨z, e, p⟩ => ⟨z, e, q _ _ p⟩) x⟩
end

section
variable {S : Js J} {B : Bs} {M : Nat → Bool} {W : WX} {X : Cx} {e a b c : Expr} {pos : Pos} {f fa fb fc : Ev J}
/-! ### classes -/
theorem toClean (h : PE X e (rdE S B M W .fresh f)) : PE X e (rdE S B M W .clean f) := PE.imp h fun r H Q ⟨g, m, j, P, E, ok, hf, q, x⟩ =>
  ⟨g, m, j, P, E, ok, hf, fun d j' g' v H' p le ok' ⟨a, ev, n, o⟩ => by
    subst ev
    exact q d j' _ _ H' p (le.ice n o.1) ⟨ok'.b.ice o.1, ok.s.ice le n o.1⟩ o.ice, x⟩
theorem toMix {k : Cl} (h : PE X e (rdE S B M W k f)) : PE X e (rdE S B M W .mix f) := PE.imp h fun r H Q ⟨g, m, j, P, E, ok, hf, q, x⟩ =>
  ⟨g, m, j, P, E, ok, hf, fun d j' g' v H' p le ok' w => q d j' g' v H' p le ok' (w.mix ok'.b.fg), x⟩
/-- as a part of an argument list: frozen or seen -/
def ofB (k : Bool) : Cl := if k then .clean else .mix
theorem rp_hp {g : Gh} {k : Bool} {g0 : Gh} {d : D} {v : V} (h : Val S g0 g (ofB k) d v) : Rp S (hp k g) d v := by
  cases k <;> exact h
theorem hp_le {g g' : Gh} (l : Le g g') (k : Bool) : Same (hp k g) (hp k g') := by
  cases k
  · exact l.g
  · exact l.f
theorem hp_g {g : Gh} (fg : Same g.F g.G) (k : Bool) : Same (hp k g) g.G := by
  cases k
  · exact Same.refl _
  · exact fg
/-! ### names, constants -/
theorem e_var {i : Nat} {x : Str} (hN : X.N[i]? = some x) (hv : Vis X.env.scope x) (hd : (x == ("__debug__" : Str)) = false) (hcd : (x == ("__classdict__" : Str)) = false) : PE X (.Name x pos) (rdE S B M W (ofB (!M i)) (eVar i)) := by
  refine PE.imp (pe_var hN hv hd hcd) fun r H Q ⟨g, m, j, P, E, ok, ⟨d, he, hp⟩, q, _⟩ => ?_
  cases hM : M i with
  | false =>
    obtain ⟨v, h1, h2⟩ := ok.s.fr i _ he hM
    exact ⟨v, h1, q d j g v H hp (Le.refl g) ok (by rw [hM]; exact h2)⟩
  | true =>
    obtain ⟨a, h1, h2⟩ := ok.s.ow i _ he hM
    exact ⟨_, h1, q d j g _ H hp (Le.refl g) ok (by rw [hM]; exact h2.rp ok.b.fg)⟩
/-- a constant, scalar -/
theorem e_c {v : V} {d : D} (h : PE X e (tC v)) (r : ∀ F, Rp S F d v) : PE X e (rdE S B M W .clean (eC d)) :=
  PE.imp h fun _ H Q ⟨g, m, j, P, E, ok, hf, q, _⟩ => q d j g v H hf (Le.refl g) ok (r _)

/-! ### operators by values -/
/-- φ tells the operator on data; ci: the arguments frozen or seen; co: the answer's class -/
def OpS (S : Js J) (r : R2) (φ : D → D → Option D) (ci : Bool) (co : Cl) : Prop :=
  ∀ (B : Bs) (g : Gh) (H : Hp) (j : J) (d1 d2 d : D) (v1 v2 : V) (Q : VK), OkB S B g H j → Rp S (hp ci g) d1 v1 → Rp S (hp ci g) d2 v2 → φ d1 d2 = some d →
    (∀ g' v H', Le g g' → OkB S B g' H' j → Val S g g' co d v → Q v H') → r v1 v2 H Q
def UnS (S : Js J) (r : V → Hp → VK → Prop) (φ : D → Option D) (ci : Bool) (co : Cl) : Prop :=
  ∀ (B : Bs) (g : Gh) (H : Hp) (j : J) (d1 d : D) (v1 : V) (Q : VK), OkB S B g H j → Rp S (hp ci g) d1 v1 → φ d1 = some d →
    (∀ g' v H', Le g g' → OkB S B g' H' j → Val S g g' co d v → Q v H') → r v1 H Q
theorem tOp_rd {r : R2} {φ : D → D → Option D} {ci : Bool} {co : Cl} (ho : OpS S r φ ci co) {R : St} {H : Hp} {Q : VK} (h : rdE S B M W co (eOp φ fa fb) R H Q) : tOp r (rdE S B M W (ofB ci) fa) (rdE S B M W (ofB ci) fb) R H Q := by
  obtain ⟨g, m, j, P, E, ok, hf, q, xo⟩ := h
  refine ⟨g, m, j, _, E, ok, hf, fun x j1 g1 v1 H1 p1 l1 ok1 w1 => ⟨g1, m, j1, _, E, ok1, p1, fun y j' g2 v2 H2 p2 l2 ok2 w2 => ?_, xo.le l1.f⟩, xo⟩
  obtain ⟨d, h3, p⟩ := p2
  exact ho B g2 H2 j' x y d v1 v2 Q ok2.b (rp_hp (w1.le l2)) (rp_hp w2) h3 fun g3 v H3 l3 ok3 w3 => q d j' g3 v H3 p ((l1.trans l2).trans l3) ⟨ok3, ok2.s.le l3⟩ (w3.back (l1.trans l2))
theorem e_bin {op : Operator} {r : R2} {φ : D → D → Option D} {ci : Bool} {co : Cl} (hr : OpR X (binaryOp op) r) (ho : OpS S r φ ci co) (ha : PE X a (rdE S B M W (ofB ci) fa)) (hb : PE X b (rdE S B M W (ofB ci) fb)) :
    PE X (.BinOp a op b pos) (rdE S B M W co (eOp φ fa fb)) := PE.imp (pe_op hr ha hb) fun _ _ _ h => tOp_rd ho h
theorem e_cmp {op : CmpOp} {r : R2} {φ : D → D → Option D} {ci : Bool} {co : Cl} (hr : OpR X (compareOp op) r) (ho : OpS S r φ ci co) (ha : PE X a (rdE S B M W (ofB ci) fa)) (hb : PE X b (rdE S B M W (ofB ci) fb)) (hm : behindInMarks op b = false) :
    PE X (.Compare a [op] [b] pos) (rdE S B M W co (eOp φ fa fb)) := PE.imp (pe_cmpR hr ha hb hm) fun _ _ _ h => tOp_rd ho h
theorem e_ix {r : R2} {φ : D → D → Option D} {ci : Bool} {co : Cl} (hr : IxR X r) (ho : OpS S r φ ci co) (ha : PE X a (rdE S B M W (ofB ci) fa)) (hb : PE X b (rdE S B M W (ofB ci) fb)) (hs : PlainIx b) :
    PE X (.Subscript a b pos) (rdE S B M W co (eOp φ fa fb)) := PE.imp (pe_ix hr ha hb hs) fun _ _ _ h => tOp_rd ho h
theorem e_un {op : UnaryOp} {r : V → Hp → VK → Prop} {φ : D → Option D} {ci : Bool} {co : Cl} (hr : UnR X (unaryOp op) r) (ho : UnS S r φ ci co) (ha : PE X a (rdE S B M W (ofB ci) fa)) : PE X (.UnaryOp op a pos) (rdE S B M W co (eUn φ fa)) :=
  PE.imp (pe_un hr ha) fun R H Q ⟨g, m, j, P, E, ok, hf, q, xo⟩ =>
    ⟨g, m, j, _, E, ok, hf, fun x j' g1 v1 H1 ⟨d, h3, p⟩ l1 ok1 w1 => ho B g1 H1 j' x d v1 Q ok1.b (rp_hp w1) h3 fun g3 v H3 l3 ok3 w3 => q d j' g3 v H3 p (l1.trans l3) ⟨ok3, ok1.s.le l3⟩ (w3.back l1), xo⟩

/-! ### argument lists -/
theorem a_nil {k : Bool} : PA X [] (rdA S B M W k aNil) := PA.imp pa_nil fun r H Q ⟨g, m, j, P, E, ok, hf, q, _⟩ => q [] j g [] H hf (Le.refl g) ok .nil
theorem a_cons {es : List Expr} {fr : Av J} {k : Bool} (ha : PE X e (rdE S B M W (ofB k) fa)) (hr : PA X es (rdA S B M W k fr)) (hs : starEach (e :: es) X.env = (false, eval e X.env) :: starEach es X.env) : PA X (e :: es) (rdA S B M W k (aCons fa fr)) :=
  PA.imp (pa_cons ha hr hs) fun r H Q ⟨g, m, j, P, E, ok, hf, q, xo⟩ =>
    ⟨g, m, j, _, E, ok, hf, fun x j1 g1 v1 H1 p1 l1 ok1 w1 => ⟨g1, m, _, _, E, ok1, p1, fun xs j2 g2 vs H2 p2 l2 ok2 w2 =>
      q _ _ g2 _ H2 p2 (l1.trans l2) ok2 (.cons ((rp_hp w1).mono (hp_le l2 k)) w2), xo.le l1.f⟩, xo⟩

/-! ### displays -/
theorem rp_newT {g : Gh} {k : Bool} {p : Addr} {o : Obj} {ds : List D} {vs : List V} (fg : Same g.F g.G) (n : g.G p = none) (ho : o.dict = none) (h : RpL S (hp k g) ds vs) : Val S g (if k then g.frz p (.frz o (.tup vs)) else g.see p (.frz o (.tup vs))) (ofB k) (.tup ds) (.ref p) := by
  cases k with
  | true => exact .tup (.inl ⟨o, upd_same, ho⟩) (h.mono (same_new (fg.free n)))
  | false => exact .tup (.inl ⟨o, upd_same, ho⟩) (h.mono (same_new n))
theorem e_tup {es : List Expr} {x1 : Nat} {fr : Av J} {k : Bool} (ha : PA X es (rdA S B M W k fr)) : PE X (.Tuple es x1 pos) (rdE S B M W (ofB k) (eTup fr)) :=
  PE.imp (pe_tupF ha) fun r H Q ⟨g, m, j, P, E, ok, hf, q, xo⟩ => by
    refine ⟨g, m, j, _, E, ok, hf, fun ds j1 g1 vs H1 ⟨hl, pp⟩ l1 ok1 w1 => ⟨by rw [← w1.length]; exact Nat.le_trans hl line_ok, fun p o np hdo => ?_⟩, xo⟩
    obtain ⟨n1, n2, n3, n4⟩ := ok1.b.hn np
    have l2 : Le g1 (if k then g1.frz p (.frz o (.tup vs)) else g1.see p (.frz o (.tup vs))) := by
      cases k
      · exact Le.see n2
      · exact Le.frz ok1.b.fg n2
    refine q _ _ _ _ _ pp (l1.trans l2) ⟨?_, ok1.s.le l2⟩ ((rp_newT ok1.b.fg n2 hdo w1).back l1)
    cases k
    · exact ok1.b.see _ np
    · exact ok1.b.frz _ np
/-- a list display with frozen items: fresh; with seen ones: seen -/
theorem e_lst {es : List Expr} {fr : Av J} (ha : PA X es (rdA S B M W true fr)) : PE X (.List es pos) (rdE S B M W .fresh (eLst fr)) :=
  PE.imp (pe_lst ha) fun r H Q ⟨g, m, j, P, E, ok, hf, q, xo⟩ => by
    refine ⟨g, m, j, _, E, ok, hf, fun ds j1 g1 vs H1 ⟨hl, pp⟩ l1 ok1 w1 => ⟨by rw [← w1.length]; exact Nat.le_trans hl line_ok, fun p np => ?_⟩, xo⟩
    obtain ⟨n1, n2, n3, n4⟩ := ok1.b.hn np
    have l2 : Le g1 (g1.see p (.lst vs)) := Le.see n2
    exact q _ _ _ _ _ pp (l1.trans l2) ⟨ok1.b.see _ np, ok1.s.le l2⟩ ⟨p, rfl, l1.g.free n2, n1, .inl ⟨_, vs, rfl, upd_same, w1⟩⟩
/-! ### how an operator answers -/
/-- a scalar -/
theorem ans {g : Gh} {H : Hp} {j : J} {d : D} {v : V} {Q : VK} (k : OkB S B g H j) (q : ∀ g' v H', Le g g' → OkB S B g' H' j → Val S g g' .clean d v → Q v H') (r : ∀ F, Rp S F d v) : Q v H := q g v H (Le.refl g) k (r _)
/-- a part of what was there -/
theorem ansP {g : Gh} {H : Hp} {j : J} {d : D} {v : V} {Q : VK} {k : Bool} (ok : OkB S B g H j) (q : ∀ g' v H', Le g g' → OkB S B g' H' j → Val S g g' (ofB k) d v → Q v H') (r : Rp S (hp k g) d v) : Q v H :=
  q g v H (Le.refl g) ok (by cases k <;> exact r)
/-- a new tuple -/
theorem ansT {g : Gh} {H : Hp} {j : J} {ds : List D} {vs : List V} {Q : VK} {k : Bool} (ok : OkB S B g H j) (q : ∀ g' v H', Le g g' → OkB S B g' H' j → Val S g g' (ofB k) (.tup ds) v → Q v H') (r : RpL S (hp k g) ds vs) : NewT H vs Q := fun p o np hdo => by
  obtain ⟨n1, n2, n3, n4⟩ := ok.hn np
  refine q (if k then g.frz p (.frz o (.tup vs)) else g.see p (.frz o (.tup vs))) _ _ ?_ ?_ (rp_newT ok.fg n2 hdo r)
  · cases k
    · exact Le.see n2
    · exact Le.frz ok.fg n2
  · cases k
    · exact ok.see _ np
    · exact ok.frz _ np
/-- a new list -/
def ofL (k : Bool) : Cl := if k then .fresh else .mix
theorem ansL {g : Gh} {H : Hp} {j : J} {ds : List D} {vs : List V} {Q : VK} {k : Bool} (ok : OkB S B g H j) (q : ∀ g' v H', Le g g' → OkB S B g' H' j → Val S g g' (ofL k) (.lst ds) v → Q v H') (r : RpL S (hp k g) ds vs) {p : Addr} (np : H p = none) : Q (.ref p) (upd H p (.lst vs)) := by
  obtain ⟨n1, n2, n3, n4⟩ := ok.hn np
  refine q (g.see p (.lst vs)) _ _ (Le.see n2) (ok.see _ np) ?_
  cases k with
  | true => exact ⟨p, rfl, n2, n1, .inl ⟨ds, vs, rfl, upd_same, r⟩⟩
  | false => exact .lst upd_same (r.mono (same_new n2))
/-- .. frozen at once -/
theorem ansF {g : Gh} {H : Hp} {j : J} {ds : List D} {vs : List V} {Q : VK} {k : Bool} (ok : OkB S B g H j) (q : ∀ g' v H', Le g g' → OkB S B g' H' j → Val S g g' (ofB k) (.lst ds) v → Q v H') (r : RpL S (hp k g) ds vs) {p : Addr} (np : H p = none) : Q (.ref p) (upd H p (.lst vs)) := by
  obtain ⟨n1, n2, n3, n4⟩ := ok.hn np
  cases k with
  | true => exact q (g.frz p (.lst vs)) _ _ (Le.frz ok.fg n2) (ok.frz _ np) (.lst upd_same (r.mono (same_new n1)))
  | false => exact q (g.see p (.lst vs)) _ _ (Le.see n2) (ok.see _ np) (.lst upd_same (r.mono (same_new n2)))
end
end Mp

/-! Mp3: the operators on data. -/
namespace Mp
open PySem PySem.Spec L2
variable {J : Type}

/-! ### whole numbers of a fair size -/
def BIG : Int := 10 ^ 60
def sm (i : Int) : Bool := decide (-BIG < i ∧ i < BIG)
theorem sm_iff {i : Int} : sm i = true ↔ -(10 ^ 60) < i ∧ i < 10 ^ 60 := by unfold sm BIG; simp
theorem sm_nat {i : Int} (h : sm i = true) : i.natAbs < 2 ^ 200 := by
  have h := sm_iff.mp h
  have : (10 ^ 60 : Nat) < 2 ^ 200 := by decide
  omega
theorem sm_log {i : Int} (h : sm i = true) : i.natAbs.log2 < 200 := PySem.Flt.log2_lt_of (by decide) (sm_nat h)

/-- whole numbers that may be multiplied -/
def sg (i : Int) : Bool := decide (-(10 ^ 200) < i ∧ i < 10 ^ 200)
theorem sg_iff {i : Int} : sg i = true ↔ -(10 ^ 200) < i ∧ i < 10 ^ 200 := by unfold sg; simp
theorem sg_nat {i : Int} (h : sg i = true) : i.natAbs < 2 ^ 700 := by
  have h := sg_iff.mp h
  have h2 : (10 ^ 200 : Nat) ≤ 2 ^ 700 := by decide
  exact Nat.lt_of_lt_of_le (m := 10 ^ 200) (by omega) h2
theorem sg_log {i : Int} (h : sg i = true) : i.natAbs.log2 < 700 := PySem.Flt.log2_lt_of (by decide) (sg_nat h)
theorem sg_sm {i : Int} (h : sm i = true) : sg i = true := by
  have h := sm_iff.mp h
  exact sg_iff.mpr ⟨by omega, by omega⟩
def addD : D → D → Option D
  | .int i, .int k => some (.int (i + k))
  | .str x, .str y => if x.length + y.length ≤ LINE then some (.str (x ++ y)) else none
  | .lst xs, .lst ys => if xs.length + ys.length ≤ LINE then some (.lst (xs ++ ys)) else none
  | .tup xs, .tup ys => if xs.length + ys.length ≤ LINE then some (.tup (xs ++ ys)) else none
  | _, _ => none
/-- of two lists alone -/
def addL : D → D → Option D
  | .lst xs, .lst ys => if xs.length + ys.length ≤ LINE then some (.lst (xs ++ ys)) else none
  | _, _ => none
def subD : D → D → Option D
  | .int i, .int k => some (.int (i - k))
  | _, _ => none
def rep (n : Nat) (xs : List D) : List D := (List.replicate n xs).flatten
def mulD : D → D → Option D
  | .int i, .int k => if sg i && sg k then some (.int (i * k)) else none
  | .lst xs, .int k => if decide (k ≤ 1000000) && decide (xs.length * k.toNat ≤ LINE) && decide (-1000000 ≤ k) then some (.lst (rep k.toNat xs)) else none
  | _, _ => none
def mulL : D → D → Option D
  | .lst xs, .int k => if decide (k ≤ 1000000) && decide (xs.length * k.toNat ≤ LINE) && decide (-1000000 ≤ k) then some (.lst (rep k.toNat xs)) else none
  | _, _ => none
def fdivD : D → D → Option D
  | .int i, .int k => if decide (0 < k) && sm k then some (.int (i / k)) else none
  | _, _ => none
def modD : D → D → Option D
  | .int i, .int k => if decide (0 < k) then some (.int (i % k)) else none
  | _, _ => none
def powD : D → D → Option D
  | .int i, .int k => if decide (0 ≤ k) && decide (k ≤ 1000) && decide (-(2 ^ 62) < i) && decide (i < 2 ^ 62) then some (.int (i ^ k.toNat)) else none
  | _, _ => none
def negD : D → Option D
  | .int i => some (.int (-i))
  | _ => none

section
variable {S : Js J} {B : Bs} {M : Nat → Bool} {X : Cx} {e a b c : Expr} {pos : Pos} {f fa fb fc : Ev J}
theorem RpL.nil_iff {F : Hp} {ds : List D} {vs : List V} (h : RpL S F ds vs) : ds = [] ↔ vs = [] := by
  cases h with
  | nil => simp
  | cons _ _ => simp
theorem RpL.rep {F : Hp} {ds : List D} {vs : List V} (h : RpL S F ds vs) : ∀ n, RpL S F (rep n ds) (List.replicate n vs).flatten
  | 0 => .nil
  | n + 1 => by
    unfold Mp.rep
    rw [List.replicate_succ, List.replicate_succ, List.flatten_cons, List.flatten_cons]
    exact h.append (RpL.rep h n)
theorem tup_of {F : Hp} {ds : List D} {v : V} (h : Rp S F (.tup ds) v) : ∃ a vs, v = .ref a ∧ SqF S.K F a vs ∧ RpL S F ds vs := by cases h; exact ⟨_, _, rfl, by assumption, by assumption⟩
theorem lst_of {F : Hp} {ds : List D} {v : V} (h : Rp S F (.lst ds) v) : ∃ a vs, v = .ref a ∧ F a = some (.lst vs) ∧ RpL S F ds vs := by cases h; exact ⟨_, _, rfl, by assumption, by assumption⟩
theorem int_of {F : Hp} {i : Int} {v : V} (h : Rp S F (.int i) v) : v = .int i := by cases h; rfl
theorem bl_of {F : Hp} {i : Bool} {v : V} (h : Rp S F (.bl i) v) : v = .bl i := by cases h; rfl
theorem str_of {F : Hp} {i : Str} {v : V} (h : Rp S F (.str i) v) : v = .str i := by cases h; rfl
theorem non_of {F : Hp} {v : V} (h : Rp S F .non v) : v = .non := by cases h; rfl
theorem OkB.sub {g : Gh} {H : Hp} {j : J} (k : OkB S B g H j) (ci : Bool) : Same (hp ci g) H := (hp_g k.fg ci).trans k.gh

/-- the union of the four sums -/
def rAddD (K : PySem.W.Frag) : R2 := fun x y H Q => (rI0 (fun i j => .int (i + j)) x y H Q) ∨ (∃ i j, x = .str i ∧ y = .str j ∧ i.length + j.length ≤ sizeLine ∧ Q (.str (i ++ j)) H) ∨ rCat x y H Q ∨ rCatF K x y H Q
theorem op_addD : OpR X (binaryOp .Add) (rAddD X.K) := op_add.or (op_add_str.or (op_cat.or op_catF))
theorem s_add {ci : Bool} : OpS S (rAddD S.K) addD ci (ofB ci) := by
  intro B g H j d1 d2 d v1 v2 Q ok h1 h2 e q
  unfold addD at e
  split at e
  · cases e; rw [int_of h1, int_of h2]
    exact .inl ⟨_, _, rfl, rfl, q g _ H (Le.refl g) ok (by cases ci <;> exact .int _)⟩
  · split at e
    · rename_i hl
      cases e; rw [str_of h1, str_of h2]
      exact .inr (.inl ⟨_, _, rfl, rfl, Nat.le_trans hl line_ok, q g _ H (Le.refl g) ok (by cases ci <;> exact .str _)⟩)
    · cases e
  · split at e
    · rename_i xs ys hl
      cases e
      obtain ⟨a, vs, rfl, ha, ra⟩ := lst_of h1
      obtain ⟨b, ws, rfl, hb, rb⟩ := lst_of h2
      refine .inr (.inr (.inl ⟨a, b, vs, ws, rfl, rfl, ok.sub ci _ _ ha, ok.sub ci _ _ hb, ?_, fun p np => ansF (B := B) ok q (ra.append rb) np⟩))
      rw [← ra.length, ← rb.length]; exact Nat.le_trans hl line_ok
    · cases e
  · split at e
    · rename_i xs ys hl
      cases e
      obtain ⟨a, vs, rfl, ha, ra⟩ := tup_of h1
      obtain ⟨b, ws, rfl, hb, rb⟩ := tup_of h2
      refine .inr (.inr (.inr ⟨a, b, vs, ws, rfl, rfl, sqT_same (ok.sub ci) ha.t, sqT_same (ok.sub ci) hb.t, ?_, fun z => ?_, fun z z' => ?_, fun _ _ => ansT (B := B) ok q (ra.append rb)⟩))
      · rw [← ra.length, ← rb.length]; exact Nat.le_trans hl line_ok
      · obtain rfl := ra.nil_iff.mpr z
        exact ansP (B := B) ok q h2
      · obtain rfl := rb.nil_iff.mpr z'
        rw [List.append_nil] at q
        exact ansP (B := B) ok q h1
    · cases e
  · cases e
theorem s_sub {ci : Bool} : OpS S (rI0 fun i j => .int (i - j)) subD ci .clean := by
  intro B g H j d1 d2 d v1 v2 Q ok h1 h2 e q
  unfold subD at e
  split at e
  · cases e; rw [int_of h1, int_of h2]
    exact ⟨_, _, rfl, rfl, ans (B := B) ok q fun _ => .int _⟩
  · cases e
def rMulD : R2 := fun x y H Q => rI CMulW (fun i j => .int (i * j)) x y H Q ∨ rRep x y H Q
theorem op_mulD : OpR X (binaryOp .Mult) rMulD := op_mulW.or op_rep
theorem s_mul {ci : Bool} : OpS S rMulD mulD ci (ofB ci) := by
  intro B g H j d1 d2 d v1 v2 Q ok h1 h2 e q
  unfold mulD at e
  split at e
  · split at e
    · rename_i hc
      rw [Bool.and_eq_true] at hc
      cases e; rw [int_of h1, int_of h2]
      exact .inl ⟨_, _, rfl, rfl, wide_mul (sg_nat hc.1) (sg_nat hc.2) (by decide) (by decide) (by decide), q g _ H (Le.refl g) ok (by cases ci <;> exact .int _)⟩
    · cases e
  · split at e
    · rename_i xs k hc
      simp only [Bool.and_eq_true, decide_eq_true_eq] at hc
      cases e; rw [int_of h2]
      obtain ⟨a, vs, rfl, ha, ra⟩ := lst_of h1
      refine .inr ⟨a, k, vs, rfl, rfl, ok.sub ci _ _ ha, by omega, by omega, ?_, fun p np => ansF (B := B) ok q (ra.rep _) np⟩
      rw [← ra.length]; exact Nat.le_trans hc.1.2 line_ok
    · cases e
  · cases e
theorem s_fdiv {ci : Bool} : OpS S (rI CDivW fun i j => .int (i / j)) fdivD ci .clean := by
  intro B g H j d1 d2 d v1 v2 Q ok h1 h2 e q
  unfold fdivD at e
  split at e
  · split at e
    · rename_i hc
      rw [Bool.and_eq_true, decide_eq_true_eq] at hc
      cases e; rw [int_of h1, int_of h2]
      exact ⟨_, _, rfl, rfl, wide_div hc.1 (sm_nat hc.2) (by decide) (by decide), ans (B := B) ok q fun _ => .int _⟩
    · cases e
  · cases e
theorem s_mod {ci : Bool} : OpS S (rI (fun _ j => 0 < j) fun i j => .int (i % j)) modD ci .clean := by
  intro B g H j d1 d2 d v1 v2 Q ok h1 h2 e q
  unfold modD at e
  split at e
  · split at e
    · rename_i hc
      rw [decide_eq_true_eq] at hc
      cases e; rw [int_of h1, int_of h2]
      exact ⟨_, _, rfl, rfl, hc, ans (B := B) ok q fun _ => .int _⟩
    · cases e
  · cases e
theorem s_pow {ci : Bool} : OpS S (rI CPow fun i j => .int (i ^ j.toNat)) powD ci .clean := by
  intro B g H j d1 d2 d v1 v2 Q ok h1 h2 e q
  unfold powD at e
  split at e
  · split at e
    · rename_i hc
      simp only [Bool.and_eq_true, decide_eq_true_eq] at hc
      cases e; rw [int_of h1, int_of h2]
      exact ⟨_, _, rfl, rfl, ⟨hc.1.1.1, by omega, by omega⟩, ans (B := B) ok q fun _ => .int _⟩
    · cases e
  · cases e
theorem s_neg {ci : Bool} : UnS S (rU fun i => .int (-i)) negD ci .clean := by
  intro B g H j d1 d v1 Q ok h1 e q
  unfold negD at e
  split at e
  · cases e; rw [int_of h1]
    exact ⟨_, rfl, ans (B := B) ok q fun _ => .int _⟩
  · cases e

/-! ### comparisons of ints -/
def cmpD (p : Int → Int → Bool) : D → D → Option D
  | .int i, .int k => some (.bl (p i k))
  | _, _ => none
theorem s_cmp {p : Int → Int → Bool} {ci : Bool} : OpS S (rI0 fun i j => .bl (p i j)) (cmpD p) ci .clean := by
  intro B g H j d1 d2 d v1 v2 Q ok h1 h2 e q
  unfold cmpD at e
  split at e
  · cases e; rw [int_of h1, int_of h2]
    exact ⟨_, _, rfl, rfl, ans (B := B) ok q fun _ => .bl _⟩
  · cases e
/-- is None -/
def isND : D → D → Option D
  | .non, .non => some (.bl true)
  | .jar, _ => none
  | _, .non => some (.bl false)
  | _, _ => none
def notND : D → D → Option D
  | .non, .non => some (.bl false)
  | .jar, _ => none
  | _, .non => some (.bl true)
  | _, _ => none
end

/-! ### data as the model's own -/
mutual
def py : D → Option PyData
  | .non => some .none
  | .bl b => some (.bool b)
  | .int i => some (.int i)
  | .str x => some (.str x)
  | .tup xs => match pyL xs with | some ys => some (.tuple ys) | none => none
  | .lst xs => match pyL xs with | some ys => some (.list ys) | none => none
  | .dct kvs => match pyK kvs with | some ys => some (.dict ys) | none => none
  | _ => none
def pyL : List D → Option (List PyData)
  | [] => some []
  | x :: xs => match py x, pyL xs with | some y, some ys => some (y :: ys) | _, _ => none
def pyK : List (Key × D) → Option (List (PyData × PyData))
  | [] => some []
  | (k, x) :: xs => match py x, pyK xs with | some y, some ys => some ((match k with | .inl i => .int i | .inr s => .str s, y) :: ys) | _, _ => none
end
section
variable {S : Js J} {F : Hp}
mutual
theorem dp_of : ∀ {d : D} {v : V} {p : PyData}, Rp S F d v → py d = some p → p.hasDict = false → Dp S.K F v p
  | _, _, _, .non, e, _ => by unfold py at e; cases e; exact .non
  | _, _, _, .bl b, e, _ => by unfold py at e; cases e; exact .bl b
  | _, _, _, .int b, e, _ => by unfold py at e; cases e; exact .int b
  | _, _, _, .str b, e, _ => by unfold py at e; cases e; exact .str b
  | _, _, _, .tup h t, e, n => by
    unfold py at e
    split at e
    · cases e
      exact .tup h.t (dpl_of t (by assumption) (by simpa [PyData.hasDict] using n))
    · cases e
  | _, _, _, .lst h t, e, n => by
    unfold py at e
    split at e
    · cases e
      exact .lst (.of h) (dpl_of t (by assumption) (by simpa [PyData.hasDict] using n))
    · cases e
  | _, _, _, .dct h l t, e, n => by
    unfold py at e
    split at e
    · cases e
      simp [PyData.hasDict] at n
    · cases e
  | _, _, _, .jar, e, _ => by unfold py at e; cases e
  | _, _, _, .ins _ _ _, e, _ => by unfold py at e; cases e
theorem dpl_of : ∀ {ds : List D} {vs : List V} {ps : List PyData}, RpL S F ds vs → pyL ds = some ps → PyData.hasDictAll ps = false → DpAll S.K F vs ps
  | _, _, _, .nil, e, _ => by unfold pyL at e; cases e; exact .nil
  | _, _, _, .cons h t, e, n => by
    unfold pyL at e
    split at e
    · cases e
      simp only [PyData.hasDictAll, Bool.or_eq_false_iff] at n
      exact .cons (dp_of h (by assumption) n.1) (dpl_of t (by assumption) n.2)
    · cases e
end
end
mutual
theorem Dp_mono {K : PySem.W.Frag} {F G : Hp} (s : Same F G) : ∀ {p : PyData} {v : V}, Dp K F v p → Dp K G v p
  | _, _, .non => .non
  | _, _, .bl b => .bl b
  | _, _, .int b => .int b
  | _, _, .str b => .str b
  | _, _, .lst h t => .lst (sqL_same s h) (DpAll_mono s t)
  | _, _, .tup h t => .tup (sqT_same s h) (DpAll_mono s t)
theorem DpAll_mono {K : PySem.W.Frag} {F G : Hp} (s : Same F G) : ∀ {p : List PyData} {v : List V}, DpAll K F v p → DpAll K G v p
  | _, _, .nil => .nil
  | _, _, .cons h t => .cons (Dp_mono s h) (DpAll_mono s t)
end

/-- == of data without dicts -/
def eqP (x y : D) : Option Bool := match py x, py y with
  | some p, some q => if SeqAt.shaped p && SeqAt.shaped q then some (PyData.eqv p q) else none
  | _, _ => none
def eqB : D → D → Option Bool
  | .int i, .int k => some (decide (i = k))
  | .str i, .str k => some (decide (i = k))
  | .bl i, .bl k => some (decide (i = k))
  | x, y => eqP x y
def eqD (x y : D) : Option D := match eqB x y with | some b => some (.bl b) | none => none
def neD (x y : D) : Option D := match eqB x y with | some b => some (.bl (!b)) | none => none
theorem noDict {p : PyData} (h : SeqAt.shaped p = true) : p.hasDict = false := PyData.hasDict_of_canLay _ (SeqAt.canLay_of_shaped h)
def rEqE (K : PySem.W.Frag) : R2 := fun x y H Q => rEq x y H Q ∨ rEqD K x y H Q
def rNeE (K : PySem.W.Frag) : R2 := fun x y H Q => rNe x y H Q ∨ rNeD K x y H Q
section
variable {S : Js J} {X : Cx}
theorem op_eqE (hu : X.A.units + 64 < cLine) : OpR X (compareOp .Eq) (rEqE X.K) := op_eq.or (op_eqD hu)
theorem op_neE (hu : X.A.units + 64 < cLine) : OpR X (compareOp .NotEq) (rNeE X.K) := op_ne.or (op_neD hu)
/-- what is known of two things that are compared -/
theorem eqB_cases {F : Hp} {d1 d2 : D} {v1 v2 : V} {b : Bool} (h1 : Rp S F d1 v1) (h2 : Rp S F d2 v2) (e : eqB d1 d2 = some b) : (scal v1 v2 = true ∧ decide (v1 = v2) = b) ∨ ∃ p q, Dp S.K F v1 p ∧ Dp S.K F v2 q ∧ SeqAt.shaped p = true ∧ SeqAt.shaped q = true ∧ PyData.eqv p q = b := by
  unfold eqB at e
  split at e
  · cases e
    rw [int_of h1, int_of h2]
    exact .inl ⟨rfl, by rw [Bool.eq_iff_iff]; simp⟩
  · cases e
    rw [str_of h1, str_of h2]
    exact .inl ⟨rfl, by rw [Bool.eq_iff_iff]; simp⟩
  · cases e
    rw [bl_of h1, bl_of h2]
    exact .inl ⟨rfl, by rw [Bool.eq_iff_iff]; simp⟩
  · unfold eqP at e
    split at e
    · split at e
      · rename_i p q' hp hq hs
        rw [Bool.and_eq_true] at hs
        cases e
        exact .inr ⟨p, q', dp_of h1 hp (noDict hs.1), dp_of h2 hq (noDict hs.2), hs.1, hs.2, rfl⟩
      · cases e
    · cases e
theorem s_eq {ci : Bool} : OpS S (rEqE S.K) eqD ci .clean := by
  intro B g H j d1 d2 d v1 v2 Q ok h1 h2 e q
  unfold eqD at e
  split at e
  · rename_i b he
    cases e
    rcases eqB_cases h1 h2 he with ⟨c1, c2⟩ | ⟨p, q', c1, c2, c3, c4, c5⟩
    · exact .inl ⟨c1, by rw [c2]; exact ans (B := B) ok q fun _ => .bl _⟩
    · exact .inr ⟨p, q', Dp_mono (ok.sub ci) c1, Dp_mono (ok.sub ci) c2, c3, c4, by rw [c5]; exact ans (B := B) ok q fun _ => .bl _⟩
  · cases e
theorem s_ne {ci : Bool} : OpS S (rNeE S.K) neD ci .clean := by
  intro B g H j d1 d2 d v1 v2 Q ok h1 h2 e q
  unfold neD at e
  split at e
  · rename_i b he
    cases e
    rcases eqB_cases h1 h2 he with ⟨c1, c2⟩ | ⟨p, q', c1, c2, c3, c4, c5⟩
    · exact .inl ⟨c1, by rw [c2]; exact ans (B := B) ok q fun _ => .bl _⟩
    · exact .inr ⟨p, q', Dp_mono (ok.sub ci) c1, Dp_mono (ok.sub ci) c2, c3, c4, by rw [c5]; exact ans (B := B) ok q fun _ => .bl _⟩
  · cases e
/-! ### items -/
def idxD : D → D → Option D
  | .lst xs, .int i => atI xs i
  | .tup xs, .int i => atI xs i
  | .str z, .int i => if z.length ≤ LINE then (atI z.cps.toList i).map fun c => .str ⟨#[c]⟩ else none
  | _, _ => none
theorem RpL.atI {F : Hp} {ds : List D} {vs : List V} {i : Int} {d : D} (h : RpL S F ds vs) (e : L2.atI ds i = some d) : ∃ v, L2.atI vs i = some v ∧ Rp S F d v := by
  unfold L2.atI at e ⊢
  rw [← h.length]
  cases q : ixN ds.length i with
  | none => rw [q] at e; cases e
  | some k =>
    rw [q] at e
    exact h.get e
theorem s_idx {ci : Bool} : OpS S (rIx S.K) idxD ci (ofB ci) := by
  intro B g H j d1 d2 d v1 v2 Q ok h1 h2 e q
  unfold idxD at e
  split at e
  · rw [int_of h2]
    obtain ⟨a, vs, rfl, ha, ra⟩ := lst_of h1
    obtain ⟨v, e1, r1⟩ := ra.atI e
    exact .inl ⟨a, vs, _, v, rfl, rfl, .of (ok.sub ci _ _ ha), e1, ansP (B := B) ok q r1⟩
  · rw [int_of h2]
    obtain ⟨a, vs, rfl, ha, ra⟩ := tup_of h1
    obtain ⟨v, e1, r1⟩ := ra.atI e
    exact .inr (.inl ⟨a, vs, _, v, rfl, rfl, sqT_same (ok.sub ci) ha.t, e1, ansP (B := B) ok q r1⟩)
  · split at e
    · rename_i z i hl
      rw [int_of h2, str_of h1]
      cases hc : L2.atI z.cps.toList i with
      | none => rw [hc] at e; cases e
      | some c =>
        rw [hc] at e
        cases e
        exact .inr (.inr ⟨z, i, c, rfl, rfl, Nat.le_trans hl line_ok, hc, q g _ H (Le.refl g) ok (by cases ci <;> exact .str _)⟩)
    · cases e
  · cases e
end
end Mp

/-! MpR: repr of data. -/
namespace Mp
open PySem PySem.Spec PyProof.Rows L2
/-! ### repr of data -/
section
variable {J : Type} {S : Js J} {X : Cx} {pins : List (Addr × Obj)} {σ : L2.St} {H G : Hp} {s : Shared}
theorem pairs_keys {P : Program} {w : World} : ∀ {es : List DictEntry} {kvs : List (Key × Value)} {kds : List (Key × D)} {ps : List (PyData × PyData)}, PySem.Pairs (mixKind P w) es kvs → kds.map Prod.fst = kvs.map Prod.fst → pyK kds = some ps → ∀ h : Heap, ReadsAll h (es.map (·.key)) (ps.map (·.1)) [] := by
  intro es kvs kds ps hp
  induction hp generalizing kds ps with
  | nil =>
    intro hk e h
    cases kds with
    | nil => unfold pyK at e; cases e; exact .nil
    | cons _ _ => simp at hk
  | cons h1 h2 h3 ih =>
    intro hk e h
    cases kds with
    | nil => simp at hk
    | cons kd kds =>
      obtain ⟨k, d⟩ := kd
      simp only [List.map_cons, List.cons.injEq] at hk
      unfold pyK at e
      split at e
      · cases e
        have := ih hk.2 (by assumption) h
        rw [List.map_cons, List.map_cons]
        have e1 : k = _ := hk.1
        subst e1
        refine ReadsAll.cons (as := []) (bs := []) ?_ this
        rcases keyIs_shape h1 with ⟨i, t, e2, e3⟩ | ⟨x, t, e2, e3⟩
        · rw [e2, e3]; exact .int i t
        · rw [e2, e3]; exact .str x t
      · cases e

theorem pairs_vals {P : Program} {w : World} {kvs : List (Key × V)} {us : List (Key × Value)} {es : List DictEntry} (hp : PySem.Pairs (mixKind P w) es us) (r : KV kvs us) : Vals (kvs.map Prod.snd) (es.map (·.val)) ∧ kvs.map Prod.fst = us.map Prod.fst := by
  induction hp generalizing kvs with
  | nil => cases r; exact ⟨.nil, rfl⟩
  | cons h1 h2 h3 ih =>
    cases r with
    | cons r1 r2 =>
      obtain ⟨i1, i2⟩ := ih r2
      rw [List.map_cons, List.map_cons, List.map_cons, List.map_cons, i2, r1.1, h2]
      exact ⟨.cons r1.2 i1, rfl⟩
theorem pyK_vals : ∀ {kds : List (Key × D)} {ps : List (PyData × PyData)}, pyK kds = some ps → pyL (kds.map Prod.snd) = some (ps.map (·.2))
  | [], _, e => by unfold pyK at e; cases e; rfl
  | (k, d) :: kds, _, e => by
    unfold pyK at e
    split at e
    · rename_i h1 h2
      cases e
      have := pyK_vals h2
      rw [List.map_cons]
      unfold pyL
      rw [h1, this]
      rfl
    · cases e
def NoSm (as : List Addr) : Prop := sysModules ∉ as
theorem noSm_at {H : Hp} (sm : ∃ o u, H sysModules = some (.frz o u)) {a : Addr} {o : HO} (h : H a = some o) (hn : ∀ x y, o ≠ .frz x y) : a ≠ sysModules := by
  obtain ⟨o1, u1, e⟩ := sm
  intro z
  rw [z, e] at h
  cases h
  exact hn _ _ rfl
mutual
theorem reads_of (I : Inv X pins σ H s) (hK : X.K = S.K) (gh : Same G H) (sm : ∃ o u, H sysModules = some (.frz o u)) : ∀ {d : D} {v : V} {p : PyData} {u : Value}, Rp S G d v → py d = some p → RelV v u → ∃ as, Reads s.heap u p as ∧ sysModules ∉ as
  | _, _, _, _, .non, e, r => by unfold py at e; cases e; cases r; exact ⟨_, .none, by simp⟩
  | _, _, _, _, .bl b, e, r => by unfold py at e; cases e; cases r; exact ⟨_, .bool b, by simp⟩
  | _, _, _, _, .int b, e, r => by unfold py at e; cases e; obtain ⟨t, rfl⟩ := r; exact ⟨_, .int b t, by simp⟩
  | _, _, _, _, .str b, e, r => by unfold py at e; cases e; obtain ⟨t, rfl⟩ := r; exact ⟨_, .str b t, by simp⟩
  | _, _, _, _, .tup h t, e, r => by
    unfold py at e
    split at e
    · cases e
      cases r
      obtain ⟨its, rv, ⟨o, ho, hc, n, hd⟩, _⟩ := I.tuple (by rw [hK]; exact sqT_same gh h.t)
      obtain ⟨as, h1, h2⟩ := readsL_of I hK gh sm t (by assumption) rv
      exact ⟨_, .tuple ho hc hd h1, h2⟩
    · cases e
  | _, _, _, _, .lst h t, e, r => by
    unfold py at e
    split at e
    · cases e
      cases r
      obtain ⟨its, rv, ⟨o, n, ho, hc, _, hd⟩, _⟩ := I.list (SqL.of (gh _ _ h))
      obtain ⟨as, h1, h2⟩ := readsL_of I hK gh sm t (by assumption) rv
      refine ⟨_, .list ho hc hd h1, ?_⟩
      simp only [List.mem_cons, not_or]
      exact ⟨(noSm_at sm (gh _ _ h) (by intro x y z; cases z)).symm, h2⟩
    · cases e
  | _, _, _, _, .dct h l t, e, r => by
    unfold py at e
    split at e
    · rename_i ps hps
      cases e
      cases r
      obtain ⟨_, _, vs, kv, o, es, ep, ho, hx, hd, _, hp, _⟩ := dk_of I.hok (gh _ _ h)
      obtain ⟨q1, q2⟩ := pairs_vals hp kv
      obtain ⟨as, h1, h2⟩ := readsL_of I hK gh sm t (pyK_vals hps) q1
      refine ⟨_, .dict ho hx.1 hd (pairs_keys hp (l.trans q2) hps s.heap) h1, ?_⟩
      simp only [List.cons_append, List.nil_append, List.mem_cons, not_or]
      exact ⟨(noSm_at sm (gh _ _ h) (by intro x y z; cases z)).symm, h2⟩
    · cases e
  | _, _, _, _, .jar, e, r => by unfold py at e; cases e
  | _, _, _, _, .ins _ _ _, e, r => by unfold py at e; cases e
theorem readsL_of (I : Inv X pins σ H s) (hK : X.K = S.K) (gh : Same G H) (sm : ∃ o u, H sysModules = some (.frz o u)) : ∀ {ds : List D} {vs : List V} {ps : List PyData} {us : List Value}, RpL S G ds vs → pyL ds = some ps → Vals vs us → ∃ as, ReadsAll s.heap us ps as ∧ sysModules ∉ as
  | _, _, _, _, .nil, e, r => by unfold pyL at e; cases e; cases r; exact ⟨_, .nil, by simp⟩
  | _, _, _, _, .cons h t, e, r => by
    unfold pyL at e
    split at e
    · cases e
      cases r with
      | cons r1 r2 =>
        obtain ⟨as, h1, h2⟩ := reads_of I hK gh sm h (by assumption) r1
        obtain ⟨bs, h3, h4⟩ := readsL_of I hK gh sm t (by assumption) r2
        exact ⟨_, .cons h1 h3, by simp only [List.mem_append, not_or]; exact ⟨h2, h4⟩⟩
    · cases e
end
/-- repr(x), x data -/
def reprD (d : D) : Option Str := match py d with
  | some p => if p.showable && decide (p.depth ≤ 60) && decide (p.shown.length ≤ LINE) then some p.shown else none
  | none => none
def rRepr (S : Js J) : List V → Hp → VK → Prop := fun vs H Q => ∃ G d v x, vs = [v] ∧ Same G H ∧ (∃ o u, H sysModules = some (.frz o u)) ∧ Rp S G d v ∧ reprD d = some x ∧ Q (.str x) H
theorem cr_repr (hK : X.K = S.K) (hg : X.A.guards = some []) (hu : X.A.units + 64 < cLine) : CallR X (.builtin "repr") (rRepr S) := by
  intro pins s σ H vs us Q I r h
  obtain ⟨G, d, v, x, rfl, gh, sm, hr, e, q⟩ := h
  unfold reprD at e
  split at e
  · rename_i p hp
    split at e
    · rename_i hc
      simp only [Bool.and_eq_true, decide_eq_true_eq] at hc
      cases e
      have hsz : p.shown.length ≤ sizeLine := Nat.le_trans hc.2 line_ok
      obtain ⟨u, rfl, r1⟩ := vals1 r
      obtain ⟨as, h1, h2⟩ := reads_of I hK gh sm hr hp r1
      have fin : ∀ (h' : Heap) (t : Tok) (tk : Nat), (∀ b o, s.heap.get? b = some o → h'.get? b = some o) → EP X pins σ Q (.str p.shown t) { s with heap := h', toks := tk } := fun h' t tk hk => ⟨.str _, H, I.kept hk, ⟨t, rfl⟩, q⟩
      cases h1 with
      | none => exact PySem.P.repr_of_none (fin s.heap _ _ fun _ _ z => z)
      | bool b => exact PySem.P.repr_of_bool (fin s.heap _ _ fun _ _ z => z)
      | int i t => exact PySem.P.repr_of_int (by simpa [PyData.showable] using hc.1.1) (fin s.heap _ _ fun _ _ z => z)
      | str y t => exact PySem.P.repr_of_str (fin s.heap _ _ fun _ _ z => z) hsz
      | list a1 a2 a3 a4 => exact repr_of_reads' (.list a1 a2 a3 a4) hc.1.1 (fun _ => h2) hg (by omega) (fun _ _ z => z) fin hsz
      | tuple a1 a2 a3 a4 => exact repr_of_reads' (.tuple a1 a2 a3 a4) hc.1.1 (fun _ => h2) hg (by omega) (fun _ _ z => z) fin hsz
      | dict a1 a2 a3 a4 a5 => exact repr_of_reads' (.dict a1 a2 a3 a4 a5) hc.1.1 (fun _ => h2) hg (by omega) (fun _ _ z => z) fin hsz
    · cases e
  · cases e
end
end Mp

/-! Mp4: built-ins, slices. -/
namespace Mp
open PySem PySem.Spec L2
variable {J : Type}

/-! ### built-in calls by data -/
def CallS (S : Js J) (r : List V → Hp → VK → Prop) (φ : List D → Option D) (ci : Bool) (co : Cl) : Prop :=
  ∀ (B : Bs) (g : Gh) (H : Hp) (j : J) (ds : List D) (d : D) (vs : List V) (Q : VK), OkB S B g H j → RpL S (hp ci g) ds vs → φ ds = some d →
    (∀ g' v H', Le g g' → OkB S B g' H' j → Val S g g' co d v → Q v H') → r vs H Q
section
variable {S : Js J} {B : Bs} {M : Nat → Bool} {W : WX} {X : Cx} {e a b c : Expr} {es : List Expr} {pos p : Pos} {f fa fb fc : Ev J} {fr : Av J} {x : Str} {id T : String} {r : List V → Hp → VK → Prop} {φ : List D → Option D} {ci : Bool} {co : Cl}
theorem tCB_rd (ho : CallS S r φ ci co) {R : St} {H : Hp} {Q : VK} (h : rdE S B M W co (eB φ fr) R H Q) : tCB r (rdA S B M W ci fr) R H Q := by
  obtain ⟨g, m, j, P, E, ok, hf, q, xo⟩ := h
  exact ⟨g, m, j, _, E, ok, hf, fun xs j' g1 v1 H1 ⟨d, h3, p⟩ l1 ok1 w1 => ho B g1 H1 j' xs d v1 Q ok1.b w1 h3 fun g3 v H3 l3 ok3 w3 => q d j' g3 v H3 p (l1.trans l3) ⟨ok3, ok1.s.le l3⟩ (w3.back l1), xo⟩
theorem e_callB (hc : CallR X (.builtin id) r) (ho : CallS S r φ ci co) (hg : Gl X x) (hm : X.mg x = none) (hv : bootBuiltins x = some (.builtin id)) (ha : PA X (e :: es) (rdA S B M W ci fr)) (hn : x ≠ "__name__") (hdb : (x == ("__debug__" : Str)) = false)
    (he : starEach (e :: es) X.env = (false, eval e X.env) :: starEach es X.env) (hpl : (backTo pos (starEach es X.env)).any (·.1) = false) : PE X (.Call (.Name x p) (e :: es) [] pos) (rdE S B M W co (eB φ fr)) :=
  PE.imp (pe_callB hc hg hm hv ha hn hdb he hpl) fun _ _ _ h => tCB_rd ho h
theorem e_callTy (hc : CallR X (.type T) r) (ho : CallS S r φ ci co) (hg : Gl X x) (hm : X.mg x = none) (hv : bootBuiltins x = some (.type T)) (ha : PA X (e :: es) (rdA S B M W ci fr)) (hn : x ≠ "__name__") (hdb : (x == ("__debug__" : Str)) = false)
    (he : starEach (e :: es) X.env = (false, eval e X.env) :: starEach es X.env) (hpl : (backTo pos (starEach es X.env)).any (·.1) = false) : PE X (.Call (.Name x p) (e :: es) [] pos) (rdE S B M W co (eB φ fr)) :=
  PE.imp (pe_callTy hc hg hm hv ha hn hdb he hpl) fun _ _ _ h => tCB_rd ho h

theorem one_of {F : Hp} {d : D} {vs : List V} (h : RpL S F [d] vs) : ∃ v, vs = [v] ∧ Rp S F d v := by
  cases h with
  | cons h t => cases t; exact ⟨_, rfl, h⟩
theorem two_of {F : Hp} {d d' : D} {vs : List V} (h : RpL S F [d, d'] vs) : ∃ v v', vs = [v, v'] ∧ Rp S F d v ∧ Rp S F d' v' := by
  cases h with
  | cons h t => cases t with | cons h' t => cases t; exact ⟨_, _, rfl, h, h'⟩
end

/-- the ints of a list of data -/
def ints? : List D → Option (List Int)
  | [] => some []
  | .int i :: xs => match ints? xs with | some ns => some (i :: ns) | none => none
  | _ :: _ => none
theorem ints?_map : ∀ ns : List Int, ints? (ns.map D.int) = some ns
  | [] => rfl
  | n :: ns => by simp only [List.map_cons, ints?, ints?_map ns]
theorem ints?_some : ∀ {ds : List D} {ns : List Int}, ints? ds = some ns → ds = ns.map D.int
  | [], _, e => by cases e; rfl
  | .int i :: xs, _, e => by
    unfold ints? at e
    split at e
    · rename_i h
      cases e
      rw [ints?_some h]; rfl
    · cases e
  | .non :: _, _, e => by cases e
  | .bl _ :: _, _, e => by cases e
  | .str _ :: _, _, e => by cases e
  | .tup _ :: _, _, e => by cases e
  | .lst _ :: _, _, e => by cases e
  | .dct _ :: _, _, e => by cases e
  | .jar :: _, _, e => by cases e
  | .ins _ _ :: _, _, e => by cases e
def bls? : List D → Option (List Bool)
  | [] => some []
  | .bl i :: xs => match bls? xs with | some ns => some (i :: ns) | none => none
  | _ :: _ => none
def lenB : List D → Option D
  | [.lst xs] => some (.int xs.length)
  | [.tup xs] => some (.int xs.length)
  | [.dct xs] => some (.int xs.length)
  | [.str x] => if x.length ≤ LINE then some (.int x.length) else none
  | _ => none
def sumB : List D → Option D
  | [.lst xs] => match ints? xs with | some ns => some (.int ns.sum) | none => none
  | [.tup xs] => match ints? xs with | some ns => some (.int ns.sum) | none => none
  | _ => none
def tupleB : List D → Option D
  | [.lst xs] => some (.tup xs)
  | [.tup xs] => some (.tup xs)
  | _ => none
def listB : List D → Option D
  | [.lst xs] => some (.lst xs)
  | [.tup xs] => some (.lst xs)
  | _ => none
def absB : List D → Option D
  | [.int i] => some (.int (if i < 0 then -i else i))
  | _ => none
/-- the greatest of a list that is not empty -/
def maxL : Int → List Int → Int
  | a, [] => a
  | a, b :: r => maxL (if a < b then b else a) r
def minL : Int → List Int → Int
  | a, [] => a
  | a, b :: r => minL (if b < a then b else a) r
theorem minL_spec : ∀ (r : List Int) (a : Int), minL a r ∈ a :: r ∧ ∀ y ∈ a :: r, minL a r ≤ y
  | [], a => ⟨List.mem_singleton.mpr rfl, fun y h => by rw [List.mem_singleton.mp h]; exact Int.le_refl _⟩
  | b :: r, a => by
    obtain ⟨h1, h2⟩ := minL_spec r (if b < a then b else a)
    unfold minL
    have h3 := h2 _ List.mem_cons_self
    refine ⟨?_, fun y hy => ?_⟩
    · rcases List.mem_cons.mp h1 with h | h
      · rw [h]; split <;> simp
      · exact List.mem_cons_of_mem _ (List.mem_cons_of_mem _ h)
    · rcases List.mem_cons.mp hy with rfl | hy
      · exact Int.le_trans h3 (by split <;> omega)
      · rcases List.mem_cons.mp hy with rfl | hy
        · exact Int.le_trans h3 (by split <;> omega)
        · exact h2 y (List.mem_cons_of_mem _ hy)
def maxB : List D → Option D
  | [.int i, .int k] => some (.int (if k > i then k else i))
  | [.lst xs] => match ints? xs with | some (a :: r) => some (.int (maxL a r)) | _ => none
  | _ => none
def minB : List D → Option D
  | [.int i, .int k] => some (.int (if k < i then k else i))
  | [.lst xs] => match ints? xs with | some (a :: r) => some (.int (minL a r)) | _ => none
  | _ => none
def intB : List D → Option D
  | [.int i] => some (.int i)
  | [.bl k] => some (.int (if k then 1 else 0))
  | _ => none
def strB : List D → Option D
  | [.int i] => if sm i then some (.str (toString i)) else none
  | _ => none
def reprB : List D → Option D
  | [d] => match reprD d with | some x => some (.str x) | none => none
  | _ => none
def allB : List D → Option D
  | [.lst xs] => match bls? xs with | some bs => some (.bl (bs.all id)) | none => none
  | _ => none
def isort (ns : List Int) : List Int := ns.mergeSort (fun a b => decide (a ≤ b))
theorem isort_perm (ns : List Int) : (isort ns).Perm ns := List.mergeSort_perm _ _
theorem isort_sorted (ns : List Int) : (isort ns).Pairwise (· ≤ ·) := by
  have h := List.pairwise_mergeSort (le := fun a b : Int => decide (a ≤ b)) (fun a b c h1 h2 => by simp at *; omega) (fun a b => by simp; omega) ns
  exact h.imp fun {a b} q => by simpa using q
theorem isort_unique {ns ns' : List Int} (p : ns'.Perm ns) (s : ns'.Pairwise (· ≤ ·)) : ns' = isort ns := PySem.W.ksm_same (p.trans (isort_perm ns).symm) s (isort_sorted ns)
def sortedB : List D → Option D
  | [.lst xs] => match ints? xs with | some ns => some (.lst ((isort ns).map D.int)) | none => none
  | _ => none
section
variable {S : Js J} {B : Bs} {M : Nat → Bool} {X : Cx} {ci : Bool}
def rLenD (K : PySem.W.Frag) : List V → Hp → VK → Prop := fun xs H Q => (∃ x n, xs = [x] ∧ LenV K x H n ∧ Q (.int n) H) ∨ (∃ a kvs, xs = [V.ref a] ∧ H a = some (.dK kvs) ∧ Q (.int kvs.length) H)
theorem cr_lenD : CallR X (.builtin "len") (rLenD X.K) := call_len.or call_lenD
theorem s_len : CallS S (rLenD S.K) lenB ci .clean := by
  intro B g H j ds d vs Q ok h e q
  unfold lenB at e
  split at e
  · cases e
    obtain ⟨v, rfl, k⟩ := one_of h
    obtain ⟨a, vs, rfl, ha, ra⟩ := lst_of k
    exact .inl ⟨_, vs.length, rfl, .inl ⟨vs, .of (ok.sub ci _ _ ha), rfl⟩, by rw [← ra.length]; exact ans (B := B) ok q fun _ => .int _⟩
  · cases e
    obtain ⟨v, rfl, k⟩ := one_of h
    obtain ⟨a, vs, rfl, ha, ra⟩ := tup_of k
    exact .inl ⟨_, vs.length, rfl, .inr ⟨vs, sqT_same (ok.sub ci) ha.t, rfl⟩, by rw [← ra.length]; exact ans (B := B) ok q fun _ => .int _⟩
  · cases e
    obtain ⟨v, rfl, k⟩ := one_of h
    cases k with
    | dct ha hk hr =>
      refine .inr ⟨_, _, rfl, ok.sub ci _ _ ha, ?_⟩
      have := congrArg List.length hk
      rw [List.length_map, List.length_map] at this
      rw [← this]
      exact ans (B := B) ok q fun _ => .int _
  · split at e
    · rename_i hl
      cases e
      obtain ⟨v, rfl, k⟩ := one_of h
      rw [str_of k]
      exact .inl ⟨_, _, rfl, ⟨Nat.le_trans hl line_ok, rfl⟩, ans (B := B) ok q fun _ => .int _⟩
    · cases e
  · cases e
def rSumD (K : PySem.W.Frag) : List V → Hp → VK → Prop := fun xs H Q => rSum K xs H Q ∨ rSumT K xs H Q
theorem cr_sumD (hc : X.calm = true) : CallR X (.builtin "sum") (rSumD X.K) := (cr_sum hc).or (cr_sumT hc)
theorem s_sum : CallS S (rSumD S.K) sumB ci .clean := by
  intro B g H j ds d vs Q ok h e q
  unfold sumB at e
  split at e
  · split at e
    · rename_i ns hn
      cases e
      obtain rfl := ints?_some hn
      obtain ⟨v, rfl, k⟩ := one_of h
      obtain ⟨a, vs, rfl, ha, ra⟩ := lst_of k
      obtain rfl := ra.of_ints
      exact .inl ⟨a, ns, rfl, .of (ok.sub ci _ _ ha), ans (B := B) ok q fun _ => .int _⟩
    · cases e
  · split at e
    · rename_i ns hn
      cases e
      obtain rfl := ints?_some hn
      obtain ⟨v, rfl, k⟩ := one_of h
      obtain ⟨a, vs, rfl, ha, ra⟩ := tup_of k
      obtain rfl := ra.of_ints
      exact .inr ⟨a, ns, rfl, sqT_same (ok.sub ci) ha.t, ans (B := B) ok q fun _ => .int _⟩
    · cases e
  · cases e
theorem s_tuple : CallS S (fun xs H Q => ∃ p ys, xs = [.ref p] ∧ ((SqL S.K H p ys ∧ NewT H ys Q) ∨ (SqT S.K H p ys ∧ Q (.ref p) H))) tupleB ci (ofB ci) := by
  intro B g H j ds d vs Q ok h e q
  unfold tupleB at e
  split at e
  · cases e
    obtain ⟨v, rfl, k⟩ := one_of h
    obtain ⟨a, vs, rfl, ha, ra⟩ := lst_of k
    exact ⟨a, vs, rfl, .inl ⟨.of (ok.sub ci _ _ ha), ansT (B := B) ok q ra⟩⟩
  · cases e
    obtain ⟨v, rfl, k⟩ := one_of h
    obtain ⟨a, vs, rfl, ha, ra⟩ := tup_of k
    exact ⟨a, vs, rfl, .inr ⟨sqT_same (ok.sub ci) ha.t, ansP (B := B) ok q k⟩⟩
  · cases e
def rMaxD (K : PySem.W.Frag) : List V → Hp → VK → Prop := fun xs H Q => (∃ i j, xs = [.int i, .int j] ∧ Q (.int (if j > i then j else i)) H) ∨ rMax K xs H Q
def rMinD (K : PySem.W.Frag) : List V → Hp → VK → Prop := fun xs H Q => (∃ i j, xs = [.int i, .int j] ∧ Q (.int (if j < i then j else i)) H) ∨ rMin K xs H Q
theorem cr_minD (hc : X.calm = true) : CallR X (.builtin "min") (rMinD X.K) := (call_min2 hc).or (cr_min hc)
theorem s_min : CallS S (rMinD S.K) minB ci .clean := by
  intro B g H j ds d vs Q ok h e q
  unfold minB at e
  split at e
  · cases e
    obtain ⟨v, v', rfl, k, k'⟩ := two_of h
    rw [int_of k, int_of k']
    exact .inl ⟨_, _, rfl, ans (B := B) ok q fun _ => .int _⟩
  · split at e
    · rename_i a r hn
      cases e
      obtain rfl := ints?_some hn
      obtain ⟨v, rfl, k⟩ := one_of h
      obtain ⟨p, vs, rfl, ha, ra⟩ := lst_of k
      obtain rfl := ra.of_ints
      obtain ⟨m1, m2⟩ := minL_spec r a
      refine .inr ⟨p, a :: r, rfl, .of (ok.sub ci _ _ ha), by simp, fun m hm hle => ?_⟩
      obtain rfl : m = minL a r := Int.le_antisymm (hle _ m1) (m2 m hm)
      exact ans (B := B) ok q fun _ => .int _
    · cases e
  · cases e
theorem s_int : CallS S (fun xs H Q => (∃ i, xs = [.int i] ∧ Q (.int i) H) ∨ ∃ k, xs = [.bl k] ∧ Q (.int (if k then 1 else 0)) H) intB ci .clean := by
  intro B g H j ds d vs Q ok h e q
  unfold intB at e
  split at e
  · cases e
    obtain ⟨v, rfl, k⟩ := one_of h
    rw [int_of k]
    exact .inl ⟨_, rfl, ans (B := B) ok q fun _ => .int _⟩
  · cases e
    obtain ⟨v, rfl, k⟩ := one_of h
    rw [bl_of k]
    exact .inr ⟨_, rfl, ans (B := B) ok q fun _ => .int _⟩
  · cases e
theorem s_repr : CallS S (rRepr S) reprB ci .clean := by
  intro B g H j ds d vs Q ok h e q
  unfold reprB at e
  split at e
  · split at e
    · rename_i x hx
      cases e
      obtain ⟨v, rfl, k⟩ := one_of h
      exact ⟨_, _, v, x, rfl, ok.sub ci, ok.sm, k, hx, ans (B := B) ok q fun _ => .str _⟩
    · cases e
  · cases e
theorem s_sorted : CallS S (rSortedI S.K) sortedB ci .fresh := by
  intro B g H j ds d vs Q ok h e q
  unfold sortedB at e
  split at e
  · split at e
    · rename_i ns hn
      cases e
      obtain rfl := ints?_some hn
      obtain ⟨v, rfl, k⟩ := one_of h
      obtain ⟨a, vs, rfl, ha, ra⟩ := lst_of k
      obtain rfl := ra.of_ints
      refine ⟨a, ns, rfl, .of (ok.sub ci _ _ ha), fun ns' p h1 h2 np => ?_⟩
      obtain rfl := isort_unique h1 h2
      exact ansL (B := B) (k := true) ok q (RpL.ints _) np
    · cases e
  · cases e
end

/-! ### slices -/
def cutD (xs : List D) (lo hi : Option Int) : List D := (xs.drop (HT.sIx xs.length 0 lo)).take (HT.sIx xs.length xs.length hi - HT.sIx xs.length 0 lo)
def sliceD (d : D) (lo hi : Option Int) : Option D := match d with
  | .lst xs => some (.lst (cutD xs lo hi))
  | .tup xs => some (.tup (cutD xs lo hi))
  | .str z => if z.length ≤ LINE then some (.str (cutS z lo hi)) else none
  | _ => none
def sliceL (d : D) (lo hi : Option Int) : Option D := match d with
  | .lst xs => some (.lst (cutD xs lo hi))
  | _ => none
abbrev Pv (J : Type) := Sd → J → (Option Int → J → Prop) → XP J → Prop
class MoP (f : Pv J) : Prop where
  mo : ∀ {m : Sd} {j : J} {P P' : Option Int → J → Prop} {E E' : XP J}, f m j P E → (∀ d j', P d j' → P' d j') → (∀ e m' j', E e m' j' → E' e m' j') → f m j P' E'
def pNone (m : Sd) (j : J) (P : Option Int → J → Prop) (E : XP J) : Prop := P none j
def pSome (f : Ev J) (m : Sd) (j : J) (P : Option Int → J → Prop) (E : XP J) : Prop := f m j (fun d j1 => ∃ i, d = .int i ∧ P (some i) j1) E
def eSl (φ : D → Option Int → Option Int → Option D) (fa : Ev J) (fl fh : Pv J) (m : Sd) (j : J) (P : D → J → Prop) (E : XP J) : Prop :=
  fa m j (fun x j1 => fl m j1 (fun l j2 => fh m j2 (fun u j3 => ∃ z, φ x l u = some z ∧ P z j3) E) E) E
instance : MoP (pNone (J := J)) := ⟨fun p q _ => q _ _ p⟩
instance {f : Ev J} [h : MoE f] : MoP (pSome f) := ⟨fun p q x => h.mo p (fun _ _ ⟨i, e, p⟩ => ⟨i, e, q _ _ p⟩) x⟩
instance {φ : D → Option Int → Option Int → Option D} {fa : Ev J} {fl fh : Pv J} [ha : MoE fa] [hl : MoP fl] [hh : MoP fh] : MoE (eSl φ fa fl fh) :=
  ⟨fun p q x => ha.mo p (fun _ _ p => hl.mo p (fun _ _ p => hh.mo p (fun _ _ ⟨z, e, p⟩ => ⟨z, e, q _ _ p⟩) x) x) x⟩
def revD : D → Option D
  | .lst xs => some (.lst xs.reverse)
  | .tup xs => some (.tup xs.reverse)
  | _ => none
def revL : D → Option D
  | .lst xs => some (.lst xs.reverse)
  | _ => none
section
variable {S : Js J} {B : Bs} {M : Nat → Bool} {W : WX} {X : Cx} {e a b c : Expr} {pos p2 : Pos} {f fa fb fc : Ev J} {ci : Bool} {co : Cl}
def rdP (S : Js J) (B : Bs) (M : Nat → Bool) (W : WX) (f : Pv J) : TO := fun r H Q => ∃ g m j P E, Ok S B g M r H m j ∧ f m j P E ∧ (∀ d j' g' H', P d j' → Le g g' → Ok S B g' M r H' m j' → Q d H') ∧ XOut S B M W g E
theorem PO.imp {o : Option Expr} {t t' : TO} (h : PO X o t) (i : ∀ r H Q, t' r H Q → t r H Q) : PO X o t' := ⟨fun pins s σ H Q I q => h.run pins s σ H Q I (i _ _ _ q)⟩
theorem p_none : PO X none (rdP S B M W pNone) := PO.imp po_none fun r H Q ⟨g, m, j, P, E, ok, hf, q, _⟩ => q _ _ g H hf (Le.refl g) ok
theorem p_some (h : PE X e (rdE S B M W .mix f)) : PO X (some e) (rdP S B M W (pSome f)) := PO.imp (po_some h) fun r H Q ⟨g, m, j, P, E, ok, hf, q, xo⟩ =>
  ⟨g, m, j, _, E, ok, hf, fun d j1 g1 v H1 ⟨i, ei, p⟩ l1 ok1 w => ⟨i, by subst ei; exact int_of w, q _ _ g1 H1 p l1 ok1⟩, xo⟩
def SlS (S : Js J) (r : V → Option Int → Option Int → Hp → VK → Prop) (φ : D → Option Int → Option Int → Option D) (ci : Bool) (co : Cl) : Prop :=
  ∀ (B : Bs) (g : Gh) (H : Hp) (j : J) (d1 d : D) (lo hi : Option Int) (v1 : V) (Q : VK), OkB S B g H j → Rp S (hp ci g) d1 v1 → φ d1 lo hi = some d →
    (∀ g' v H', Le g g' → OkB S B g' H' j → Val S g g' co d v → Q v H') → r v1 lo hi H Q
theorem e_slice {lo hi : Option Expr} {fl fh : Pv J} {r : V → Option Int → Option Int → Hp → VK → Prop} {φ : D → Option Int → Option Int → Option D} (hr : SlR X r) (ho : SlS S r φ ci co) (ha : PE X a (rdE S B M W (ofB ci) fa)) (hl : PO X lo (rdP S B M W fl)) (hh : PO X hi (rdP S B M W fh)) :
    PE X (.Subscript a (.Slice lo hi none p2) pos) (rdE S B M W co (eSl φ fa fl fh)) := PE.imp (pe_slice hr ha hl hh) fun R H Q ⟨g, m, j, P, E, ok, hf, q, xo⟩ =>
  ⟨g, m, j, _, E, ok, hf, fun x j1 g1 v1 H1 h1 l1 ok1 w1 => ⟨g1, m, j1, _, E, ok1, h1, fun l j2 g2 H2 h2 l2 ok2 => ⟨g2, m, j2, _, E, ok2, h2, fun u j3 g3 H3 ⟨z, h4, p⟩ l3 ok3 =>
    ho B g3 H3 _ _ _ _ _ v1 Q ok3.b (rp_hp ((w1.le l2).le l3)) h4 fun g4 v H4 l4 ok4 w4 => q _ _ g4 v H4 p (((l1.trans l2).trans l3).trans l4) ⟨ok4, ok3.s.le l4⟩ (w4.back ((l1.trans l2).trans l3)), xo.le (l1.trans l2).f⟩, xo.le l1.f⟩, xo⟩
theorem RpL.cut {F : Hp} {ds : List D} {vs : List V} (h : RpL S F ds vs) (lo hi : Option Int) : RpL S F (cutD ds lo hi) (cutV vs lo hi) := by
  unfold cutD cutV
  rw [h.length]
  exact (h.drop _).take _
def rSlD (K : PySem.W.Frag) : V → Option Int → Option Int → Hp → VK → Prop := fun x lo hi H Q => rSlL K x lo hi H Q ∨ rSlF K x lo hi H Q ∨ rSlS x lo hi H Q
theorem sl_D : SlR X (rSlD X.K) := sl_list.or (sl_tupF.or sl_str)
theorem cutD_all {xs : List D} {lo hi : Option Int} (h : HT.sIx xs.length 0 lo = 0 ∧ HT.sIx xs.length xs.length hi = xs.length) : cutD xs lo hi = xs := by
  unfold cutD
  rw [h.1, h.2]
  simp
theorem s_slice : SlS S (rSlD S.K) sliceD ci (ofB ci) := by
  intro B g H j d1 d lo hi v1 Q ok h e q
  unfold sliceD at e
  split at e
  · cases e
    obtain ⟨a, vs, rfl, ha, ra⟩ := lst_of h
    exact .inl ⟨a, vs, rfl, .of (ok.sub ci _ _ ha), fun p np => ansF (B := B) ok q (ra.cut lo hi) np⟩
  · cases e
    obtain ⟨a, vs, rfl, ha, ra⟩ := tup_of h
    refine .inr (.inl ⟨a, vs, rfl, sqT_same (ok.sub ci) ha.t, fun z => ?_, fun z => ansT (B := B) ok q (ra.cut lo hi)⟩)
    rw [← ra.length] at z
    rw [cutD_all z] at q
    exact ansP (B := B) ok q h
  · split at e
    · rename_i hl
      cases e
      rw [str_of h]
      exact .inr (.inr ⟨_, rfl, Nat.le_trans hl line_ok, q g _ H (Le.refl g) ok (by cases ci <;> exact .str _)⟩)
    · cases e
  · cases e
/-- e[::-1] of a list or a tuple -/
def tRevS (K : PySem.W.Frag) (te : TE) : TE := fun σ H Q => te σ H fun x H1 => (∃ a xs, x = .ref a ∧ SqL K H1 a xs ∧ ∀ p, H1 p = none → Q (.ref p) (upd H1 p (.lst xs.reverse))) ∨ (∃ a xs, x = .ref a ∧ SqT K H1 a xs ∧ NewT H1 xs.reverse Q)
open PyProof.Rows hiding St in
end
end Mp

/-! Mp5: truth, tests, what is walked, targets, comprehensions. -/
namespace Mp
open PySem PySem.Spec L2
variable {J : Type}

/-! ### truth -/
def truD : D → Option Bool
  | .non => some false
  | .bl b => some b
  | .int i => some (i != 0)
  | .str x => if x.length ≤ LINE then some ((x.length : Int) != 0) else none
  | .tup xs => some (!xs.isEmpty)
  | .lst xs => some (!xs.isEmpty)
  | .dct xs => some (!xs.isEmpty)
  | _ => none
section
variable {S : Js J} {B : Bs} {M : Nat → Bool} {W : WX} {X : Cx} {e a b c : Expr} {es rest : List Expr} {pos p : Pos} {f fa fb fc : Ev J} {ta tb : Tv J}
theorem RpL.isEmpty {F : Hp} {ds : List D} {vs : List V} (h : RpL S F ds vs) : (!ds.isEmpty) = !vs.isEmpty := by cases h <;> rfl
theorem tru_of {F H : Hp} {d : D} {v : V} {k : Bool} (h : Rp S F d v) (fh : Same F H) (e : truD d = some k) : TruV S.K v H k := by
  cases h with
  | non => cases e; rfl
  | bl b => cases e; rfl
  | int i => cases e; rfl
  | str x =>
    have e : (if x.length ≤ LINE then some ((x.length : Int) != 0) else none) = some k := e
    split at e
    · rename_i hl
      cases e; exact ⟨Nat.le_trans hl line_ok, rfl⟩
    · cases e
  | tup h1 h2 => cases e; exact .inr (.inl ⟨_, sqT_same fh h1.t, h2.isEmpty⟩)
  | lst h1 h2 => cases e; exact .inl ⟨_, .of (fh _ _ h1), h2.isEmpty⟩
  | dct h1 h2 h3 =>
    cases e
    refine .inr (.inr ⟨_, fh _ _ h1, ?_⟩)
    rename_i kds kvs
    have h4 : kds.length = kvs.length := by simpa using congrArg List.length h2
    cases kds <;> cases kvs <;> first | rfl | cases h4
  | jar => cases e
  | obj _ => cases e
  | ins _ _ _ => cases e
  | dtp _ _ _ => cases e
  | exc0 _ => cases e
  | exc1 _ _ _ => cases e

/-! ### tests -/
def tOf (fa : Ev J) (m : Sd) (j : J) (P : Bool → J → Prop) (E : XP J) : Prop := fa m j (fun x j1 => ∃ b, truD x = some b ∧ P b j1) E
def tBl (fa : Ev J) (m : Sd) (j : J) (P : Bool → J → Prop) (E : XP J) : Prop := fa m j (fun x j1 => ∃ b, x = .bl b ∧ P b j1) E
def tAndD (ta tb : Tv J) (m : Sd) (j : J) (P : Bool → J → Prop) (E : XP J) : Prop := ta m j (fun b j1 => if b = true then tb m j1 P E else P false j1) E
def tOrD (ta tb : Tv J) (m : Sd) (j : J) (P : Bool → J → Prop) (E : XP J) : Prop := ta m j (fun b j1 => if b = true then P true j1 else tb m j1 P E) E
def tNotD (ta : Tv J) (m : Sd) (j : J) (P : Bool → J → Prop) (E : XP J) : Prop := ta m j (fun b j1 => P (!b) j1) E
def tYesD (m : Sd) (j : J) (P : Bool → J → Prop) (E : XP J) : Prop := P true j
/-- a chain of two comparisons -/
def eChain (φ ψ : D → D → Option D) (fa fb fc : Ev J) (m : Sd) (j : J) (P : D → J → Prop) (E : XP J) : Prop :=
  fa m j (fun x j1 => fb m j1 (fun y j2 => ∃ b, φ x y = some (.bl b) ∧ if b = true then fc m j2 (fun z j3 => ∃ d, ψ y z = some d ∧ P d j3) E else P (.bl false) j2) E) E
def eAnd (fa fb : Ev J) (m : Sd) (j : J) (P : D → J → Prop) (E : XP J) : Prop := fa m j (fun x j1 => ∃ b, truD x = some b ∧ if b = true then fb m j1 P E else P x j1) E
def eOr (fa fb : Ev J) (m : Sd) (j : J) (P : D → J → Prop) (E : XP J) : Prop := fa m j (fun x j1 => ∃ b, truD x = some b ∧ if b = true then P x j1 else fb m j1 P E) E
def eNot (fa : Ev J) (m : Sd) (j : J) (P : D → J → Prop) (E : XP J) : Prop := fa m j (fun x j1 => ∃ b, truD x = some b ∧ P (.bl (!b)) j1) E
def eIf (tc : Tv J) (fa fb : Ev J) (m : Sd) (j : J) (P : D → J → Prop) (E : XP J) : Prop := tc m j (fun b j1 => if b = true then fa m j1 P E else fb m j1 P E) E
theorem ite_mono {b : Bool} {p q p' q' : Prop} (h : if b = true then p else q) (hp : p → p') (hq : q → q') : if b = true then p' else q' := by
  cases b
  · exact hq h
  · exact hp h
section
variable {φ ψ : D → D → Option D} {f1 f2 f3 : Ev J} {t1 t2 : Tv J}
instance [ha : MoE f1] : MoT (tOf f1) := ⟨fun h q x => ha.mo h (fun _ _ ⟨b, e, p⟩ => ⟨b, e, q _ _ p⟩) x⟩
instance [ha : MoE f1] : MoT (tBl f1) := ⟨fun h q x => ha.mo h (fun _ _ ⟨b, e, p⟩ => ⟨b, e, q _ _ p⟩) x⟩
instance [ha : MoT t1] [hb : MoT t2] : MoT (tAndD t1 t2) := ⟨fun h q x => ha.mo h (fun _ _ p => ite_mono p (fun p => hb.mo p q x) (q _ _)) x⟩
instance [ha : MoT t1] [hb : MoT t2] : MoT (tOrD t1 t2) := ⟨fun h q x => ha.mo h (fun _ _ p => ite_mono p (q _ _) (fun p => hb.mo p q x)) x⟩
instance [ha : MoT t1] : MoT (tNotD t1) := ⟨fun h q x => ha.mo h (fun _ _ p => q _ _ p) x⟩
instance : MoT (tYesD (J := J)) := ⟨fun h q x => q _ _ h⟩
instance [ha : MoE f1] [hb : MoE f2] [hc : MoE f3] : MoE (eChain φ ψ f1 f2 f3) := ⟨fun h q x => ha.mo h (fun _ _ p => hb.mo p (fun _ _ ⟨b, e, p⟩ => ⟨b, e, ite_mono p (fun p => hc.mo p (fun _ _ ⟨d, e, p⟩ => ⟨d, e, q _ _ p⟩) x) (q _ _)⟩) x) x⟩
instance [ha : MoE f1] [hb : MoE f2] : MoE (eAnd f1 f2) := ⟨fun h q x => ha.mo h (fun _ _ ⟨b, e, p⟩ => ⟨b, e, ite_mono p (fun p => hb.mo p q x) (q _ _)⟩) x⟩
instance [ha : MoE f1] [hb : MoE f2] : MoE (eOr f1 f2) := ⟨fun h q x => ha.mo h (fun _ _ ⟨b, e, p⟩ => ⟨b, e, ite_mono p (q _ _) (fun p => hb.mo p q x)⟩) x⟩
instance [ha : MoE f1] : MoE (eNot f1) := ⟨fun h q x => ha.mo h (fun _ _ ⟨b, e, p⟩ => ⟨b, e, q _ _ p⟩) x⟩
instance [hc : MoT t1] [ha : MoE f1] [hb : MoE f2] : MoE (eIf t1 f1 f2) := ⟨fun h q x => hc.mo h (fun _ _ p => ite_mono p (fun p => ha.mo p q x) (fun p => hb.mo p q x)) x⟩
end
theorem t_truth (hK : X.K = S.K) (h : PE X a (rdE S B M W .mix fa)) (he : ∀ whole, isTrue a X.env whole = (do let v ← whole; standAt a.pos; holding [v] (truthy v))) : PT X a (rdT S B M W (tOf fa)) :=
  PT.imp (pt_truth h he) fun r H Q ⟨g, m, j, P, E, ok, hf, q, xo⟩ =>
    ⟨g, m, j, _, E, ok, hf, fun d j' g1 v H1 ⟨b, h2, p⟩ l1 ok1 w => ⟨_, by rw [hK]; exact tru_of w ok1.b.gh h2, q _ _ g1 H1 p l1 ok1⟩, xo⟩
/-- a test whose reading is that of a value True or False -/
theorem t_of {t : TE} (h : PT X a (tTest t)) (i : ∀ r H Q, rdE S B M W .mix fa r H Q → t r H Q) : PT X a (rdT S B M W (tBl fa)) :=
  PT.imp h fun r H Q ⟨g, m, j, P, E, ok, hf, q, xo⟩ =>
    i _ _ _ ⟨g, m, j, _, E, ok, hf, fun d j' g1 v H1 ⟨b, e, p⟩ l1 ok1 w => ⟨b, by subst e; exact bl_of w, q _ _ g1 H1 p l1 ok1⟩, xo⟩
theorem rdE_mix {k : Cl} {R : St} {H : Hp} {Q : VK} (h : rdE S B M W .mix f R H Q) : rdE S B M W k f R H Q := by
  obtain ⟨g, m, j, P, E, ok, hf, q, xo⟩ := h
  exact ⟨g, m, j, P, E, ok, hf, fun d j' g' v H' p le ok' w => q d j' g' v H' p le ok' (w.mix ok'.b.fg), xo⟩
theorem t_cmp {op : CmpOp} {r : R2} {φ : D → D → Option D} {ci : Bool} {co : Cl} (hr : OpR X (compareOp op) r) (ho : OpS S r φ ci co) (ha : PE X a (rdE S B M W (ofB ci) fa)) (hb : PE X b (rdE S B M W (ofB ci) fb)) (hm : behindInMarks op b = false) :
    PT X (.Compare a [op] [b] pos) (rdT S B M W (tBl (eOp φ fa fb))) := t_of (pt_cmpR hr ha hb hm) fun _ _ _ h => tOp_rd ho (rdE_mix h)
theorem t_and1 (ha : PT X a (rdT S B M W ta)) : PW X (.BoolOp .And [a] pos) (rdT S B M W ta) := pw_and1 ha
theorem t_or1 (ha : PT X a (rdT S B M W ta)) : PW X (.BoolOp .Or [a] pos) (rdT S B M W ta) := pw_or1 ha
theorem t_and (ha : PT X a (rdT S B M W ta)) (hb : PW X (.BoolOp .And (b :: rest) pos) (rdT S B M W tb)) : PW X (.BoolOp .And (a :: b :: rest) pos) (rdT S B M W (tAndD ta tb)) :=
  PW.imp (pw_and ha hb) fun r H Q ⟨g, m, j, P, E, ok, hf, q, xo⟩ =>
    ⟨g, m, j, _, E, ok, hf, fun d j1 g1 H1 p l1 ok1 => ite_mono p (fun p => ⟨g1, m, _, _, E, ok1, p, fun d j2 g2 H2 p l2 ok2 => q _ _ g2 H2 p (l1.trans l2) ok2, xo.le l1.f⟩) (fun p => q _ _ g1 H1 p l1 ok1), xo⟩
theorem t_or (ha : PT X a (rdT S B M W ta)) (hb : PW X (.BoolOp .Or (b :: rest) pos) (rdT S B M W tb)) : PW X (.BoolOp .Or (a :: b :: rest) pos) (rdT S B M W (tOrD ta tb)) :=
  PW.imp (pw_or ha hb) fun r H Q ⟨g, m, j, P, E, ok, hf, q, xo⟩ =>
    ⟨g, m, j, _, E, ok, hf, fun d j1 g1 H1 p l1 ok1 => ite_mono p (fun p => q _ _ g1 H1 p l1 ok1) (fun p => ⟨g1, m, _, _, E, ok1, p, fun d j2 g2 H2 p l2 ok2 => q _ _ g2 H2 p (l1.trans l2) ok2, xo.le l1.f⟩), xo⟩
theorem t_not (ha : PT X a (rdT S B M W ta)) : PT X (.UnaryOp .Not a pos) (rdT S B M W (tNotD ta)) :=
  PT.imp (pt_not ha) fun r H Q ⟨g, m, j, P, E, ok, hf, q, xo⟩ => ⟨g, m, j, _, E, ok, hf, fun d j1 g1 H1 p l1 ok1 => q _ _ g1 H1 p l1 ok1, xo⟩
theorem tChain_rd {r r' : R2} {φ ψ : D → D → Option D} {ci : Bool} (ho : OpS S r φ ci .clean) (ho' : OpS S r' ψ ci .clean) {R : St} {H : Hp} {Q : VK} (h : rdE S B M W .clean (eChain φ ψ fa fb fc) R H Q) :
    tChain r r' (rdE S B M W (ofB ci) fa) (rdE S B M W (ofB ci) fb) (rdE S B M W (ofB ci) fc) R H Q := by
  obtain ⟨g, m, j, P, E, ok, hf, q, xo⟩ := h
  refine ⟨g, m, j, _, E, ok, hf, fun x j1 g1 v1 H1 h1 l1 ok1 w1 => ⟨g1, m, _, _, E, ok1, h1, fun y j2 g2 v2 H2 ⟨b, h3, h4⟩ l2 ok2 w2 => ?_, xo.le l1.f⟩, xo⟩
  refine ho B g2 H2 j2 x y _ v1 v2 _ ok2.b (rp_hp (w1.le l2)) (rp_hp w2) h3 fun g3 v H3 l3 ok3 w3 => ⟨b, bl_of w3, ?_⟩
  refine ite_mono h4 (fun h4 => ?_) (fun h4 => ?_)
  · refine ⟨g3, m, _, _, E, ⟨ok3, ok2.s.le l3⟩, h4, fun z j4 g4 v4 H4 ⟨d, h5, p⟩ l4 ok4 w4 => ?_, xo.le ((l1.trans l2).trans l3).f⟩
    exact ho' B g4 H4 _ y z _ v2 v4 Q ok4.b (rp_hp ((w2.le l3).le l4)) (rp_hp w4) h5 fun g5 v5 H5 l5 ok5 w5 => q _ _ g5 v5 H5 p ((((l1.trans l2).trans l3).trans l4).trans l5) ⟨ok5, ok4.s.le l5⟩ w5
  · exact q _ _ g3 _ H3 h4 ((l1.trans l2).trans l3) ⟨ok3, ok2.s.le l3⟩ (.bl _)
theorem e_chain {op op' : CmpOp} {r r' : R2} {φ ψ : D → D → Option D} {ci : Bool} (hr : OpR X (compareOp op) r) (hr' : OpR X (compareOp op') r') (ho : OpS S r φ ci .clean) (ho' : OpS S r' ψ ci .clean)
    (ha : PE X a (rdE S B M W (ofB ci) fa)) (hb : PE X b (rdE S B M W (ofB ci) fb)) (hc : PE X c (rdE S B M W (ofB ci) fc)) (hm : lastMarks [op, op'] [b, c] = false) :
    PE X (.Compare a [op, op'] [b, c] pos) (rdE S B M W .clean (eChain φ ψ fa fb fc)) := PE.imp (pe_chain hr hr' ha hb hc hm) fun _ _ _ h => tChain_rd ho ho' h
/-! ### and, or, not, if .. else as values -/
theorem e_one {op : BoolOp} {k : Cl} (h : PE X a (rdE S B M W k fa)) : PE X (.BoolOp op [a] pos) (rdE S B M W k fa) := pe_one h
theorem e_and {k : Bool} (hK : X.K = S.K) (ha : PE X a (rdE S B M W (ofB k) fa)) (hb : PE X (.BoolOp .And (b :: rest) pos) (rdE S B M W (ofB k) fb)) : PE X (.BoolOp .And (a :: b :: rest) pos) (rdE S B M W (ofB k) (eAnd fa fb)) :=
  PE.imp (pe_andT ha hb) fun r H Q ⟨g, m, j, P, E, ok, hf, q, xo⟩ =>
    ⟨g, m, j, _, E, ok, hf, fun x j1 g1 v1 H1 ⟨b, h2, p⟩ l1 ok1 w1 => ⟨b, by rw [hK]; exact tru_of (rp_hp w1) (ok1.b.sub k) h2,
      ite_mono p (fun p => ⟨g1, m, _, _, E, ok1, p, fun d j2 g2 v2 H2 p l2 ok2 w2 => q _ _ g2 v2 H2 p (l1.trans l2) ok2 (w2.back l1), xo.le l1.f⟩) (fun p => q _ _ g1 v1 H1 p l1 ok1 w1)⟩, xo⟩
theorem e_not (hK : X.K = S.K) (ha : PE X a (rdE S B M W .mix fa)) : PE X (.UnaryOp .Not a pos) (rdE S B M W .clean (eNot fa)) :=
  PE.imp (pe_notT ha) fun r H Q ⟨g, m, j, P, E, ok, hf, q, xo⟩ =>
    ⟨g, m, j, _, E, ok, hf, fun x j1 g1 v1 H1 ⟨b, h2, p⟩ l1 ok1 w1 => ⟨_, by rw [hK]; exact tru_of w1 ok1.b.gh h2, q _ _ g1 _ H1 p l1 ok1 (.bl _)⟩, xo⟩
theorem e_if {k : Cl} {tc : Tv J} (hc : PT X c (rdT S B M W tc)) (ha : PE X a (rdE S B M W k fa)) (hb : PE X b (rdE S B M W k fb)) : PE X (.IfExp c a b pos) (rdE S B M W k (eIf tc fa fb)) :=
  PE.imp (pe_ifExp hc ha hb) fun r H Q ⟨g, m, j, P, E, ok, hf, q, xo⟩ =>
    ⟨g, m, j, _, E, ok, hf, fun d j1 g1 H1 p l1 ok1 => ite_mono p (fun p => ⟨g1, m, _, _, E, ok1, p, fun d j2 g2 v2 H2 p l2 ok2 w2 => q _ _ g2 v2 H2 p (l1.trans l2) ok2 (w2.back l1), xo.le l1.f⟩)
      (fun p => ⟨g1, m, _, _, E, ok1, p, fun d j2 g2 v2 H2 p l2 ok2 w2 => q _ _ g2 v2 H2 p (l1.trans l2) ok2 (w2.back l1), xo.le l1.f⟩), xo⟩
end

/-! ### what is walked -/
abbrev Iv (J : Type) := Av J
/-- an item as it comes: what is frozen, or a new tuple of such (to be unpacked, or kept) -/
def YD (S : Js J) (g : Gh) (w : Bool) (d : D) (H : Hp) (x : V) (H' : Hp) : Prop :=
  (H' = H ∧ Rp S g.F d x) ∨ (w = true ∧ ∃ T vs es, x = .ref T ∧ H T = none ∧ H' = upd H T (.tup vs) ∧ d = .tup es ∧ RpL S g.F es vs) ∨
    ∃ T o vs es, x = .ref T ∧ H T = none ∧ o.dict = none ∧ H' = upd H T (.frz o (.tup vs)) ∧ d = .tup es ∧ RpL S g.F es vs
def WalkD (S : Js J) (Jt : It) (ds : List D) (c w : Bool) (g : Gh) : Prop := Walk Jt ds.length (fun H => Same (hp c g) H) (fun i H x H' => ∃ d, ds[i]? = some d ∧ YD S g w d H x H')
def rdI (S : Js J) (B : Bs) (M : Nat → Bool) (W : WX) (c w : Bool) (f : Iv J) : TI := fun r H R => ∃ g m j P E, Ok S B g M r H m j ∧ f m j P E ∧ (∀ ds j' g' H' Jt, P ds j' → Le g g' → Ok S B g' M r H' m j' → WalkD S Jt ds c w g' → R Jt H') ∧ XOut S B M W g E
def seqL : D → Option (List D)
  | .lst xs => some xs
  | .tup xs => some xs
  | .str z => some (z.cps.toList.map fun c => .str ⟨#[c]⟩)
  | _ => none
def iSeq (f : Ev J) (m : Sd) (j : J) (P : List D → J → Prop) (E : XP J) : Prop := f m j (fun d j1 => ∃ xs, seqL d = some xs ∧ P xs j1) E
def rngD (lo : Int) (n : Nat) : List D := (List.range n).map fun k => .int (lo + (k : Nat))
theorem rngD_length (lo : Int) (n : Nat) : (rngD lo n).length = n := by unfold rngD; simp
theorem rngD_get {lo : Int} {n i : Nat} (h : i < n) : (rngD lo n)[i]? = some (.int (lo + (i : Nat))) := by unfold rngD; simp [h]
def LIM : Int := 2 ^ 61
def iRng1 (f : Ev J) (m : Sd) (j : J) (P : List D → J → Prop) (E : XP J) : Prop := f m j (fun d j1 => ∃ n, d = .int n ∧ -LIM ≤ n ∧ n ≤ LIM ∧ P (rngD 0 n.toNat) j1) E
def iRng2 (f f2 : Ev J) (m : Sd) (j : J) (P : List D → J → Prop) (E : XP J) : Prop :=
  f m j (fun d j1 => f2 m j1 (fun d2 j2 => ∃ a b, d = .int a ∧ d2 = .int b ∧ -LIM ≤ a ∧ a ≤ LIM ∧ -LIM ≤ b ∧ b ≤ LIM ∧ P (rngD a (b - a).toNat) j2) E) E
def enumD (xs : List D) : List D := (xs.zipIdx).map fun p => .tup [.int (p.2 : Nat), p.1]
def iEnm (f : Ev J) (m : Sd) (j : J) (P : List D → J → Prop) (E : XP J) : Prop := f m j (fun d j1 => ∃ xs, d = .lst xs ∧ P (enumD xs) j1) E
def zipD (xs ys : List D) : List D := (xs.zip ys).map fun p => .tup [p.1, p.2]
def zipO : D → D → Option (List D)
  | .lst xs, .lst ys => some (zipD xs ys)
  | .tup xs, .tup ys => some (zipD xs ys)
  | _, _ => none
def iZip (f f2 : Ev J) (m : Sd) (j : J) (P : List D → J → Prop) (E : XP J) : Prop := f m j (fun x j1 => f2 m j1 (fun y j2 => ∃ zs, zipO x y = some zs ∧ P zs j2) E) E
section
variable {f1 f2 : Ev J}
instance [ha : MoE f1] : MoA (iSeq f1) := ⟨fun h q x => ha.mo h (fun _ _ ⟨b, e, p⟩ => ⟨b, e, q _ _ p⟩) x⟩
instance [ha : MoE f1] : MoA (iRng1 f1) := ⟨fun h q x => ha.mo h (fun _ _ ⟨b, e1, e2, e3, p⟩ => ⟨b, e1, e2, e3, q _ _ p⟩) x⟩
instance [ha : MoE f1] [hb : MoE f2] : MoA (iRng2 f1 f2) := ⟨fun h q x => ha.mo h (fun _ _ p => hb.mo p (fun _ _ ⟨a, b, e1, e2, e3, e4, e5, e6, p⟩ => ⟨a, b, e1, e2, e3, e4, e5, e6, q _ _ p⟩) x) x⟩
instance [ha : MoE f1] : MoA (iEnm f1) := ⟨fun h q x => ha.mo h (fun _ _ ⟨b, e, p⟩ => ⟨b, e, q _ _ p⟩) x⟩
instance [ha : MoE f1] [hb : MoE f2] : MoA (iZip f1 f2) := ⟨fun h q x => ha.mo h (fun _ _ p => hb.mo p (fun _ _ ⟨b, e, p⟩ => ⟨b, e, q _ _ p⟩) x) x⟩
end
section
open PyProof.Rows hiding St
variable {X : Cx}
/-- a list, a tuple or a text -/
def iAny (K : PySem.W.Frag) (t : TE) : TI := fun σ H R => t σ H fun v H1 => (∃ a, v = .ref a ∧ (∃ xs, SqL K H1 a xs) ∧ R (Itl K a) H1) ∨ (∃ a, v = .ref a ∧ (∃ xs, SqT K H1 a xs) ∧ R (Itt K a) H1) ∨ ∃ x, v = .str x ∧ R (Its x) H1
theorem pi_any {l tg : Expr} {tl : TE} (hl : PE X l tl) : PI X tg l (iAny X.K tl) := by
  refine ⟨fun pins s σ H R I h => ?_⟩
  refine thn (hl.run pins s σ H _ I h) fun v s1 ⟨x, H1, I1, r1, q1⟩ => ?_
  rcases q1 with ⟨a, e, ⟨xs, hq⟩, q⟩ | ⟨a, e, ⟨xs, hq⟩, q⟩ | ⟨x, ex, q⟩
  · subst e
    cases r1
    obtain ⟨its, rv, p, hz⟩ := I1.list hq
    refine wpAny_pyIter_list p.isList ?_
    exact pi_one (tk := s1.toks) I1 _ (turn_list a _) ⟨_, Heap.get?_push_size _ rfl, rfl, rfl⟩ q
  · subst e
    cases r1
    obtain ⟨its, rv, p, hz⟩ := I1.tuple hq
    refine wpAny_pyIter_tuple (show s1.heap.IsTuple a its.toArray from p) ?_
    exact pi_one (tk := s1.toks) I1 _ (turn_tuple a _) ⟨_, Heap.get?_push_size _ rfl, rfl, rfl⟩ q
  · subst ex
    obtain ⟨t, rfl⟩ := r1
    cases ha : x.cps.all (· < 128)
    · exact wpAny_pyIter_wide ha (pi_one (tk := s1.toks) I1 _ (turn_str _ x t "str_iterator" (.inr rfl)) ⟨_, Heap.get?_push_size _ rfl, rfl, rfl⟩ q)
    · exact wpAny_pyIter_ascii ha (pi_one (tk := s1.toks) I1 _ (turn_str _ x t "str_ascii_iterator" (.inl rfl)) ⟨_, Heap.get?_push_size _ rfl, rfl, rfl⟩ q)
end
section
variable {S : Js J} {B : Bs} {M : Nat → Bool} {W : WX} {X : Cx} {tg e a b c : Expr} {es rest : List Expr} {pos p : Pos} {f fa fb fc : Ev J}
theorem walkD_seq {K : PySem.W.Frag} {p : Addr} {ds : List D} {vs : List V} {k : Bool} {g : Gh} (hK : K = S.K) (h : g.F p = some (.lst vs) ∨ (k = false ∧ g.G p = some (.lst vs))) (fg : Same g.F g.G) (r : RpL S g.F ds vs) : WalkD S (Itl K p) ds k false g := by
  have w := walk_list (K := K) (a := p) (xs := vs)
  rw [← r.length] at w
  refine w.mono (fun H s => .of (s _ _ ?_)) fun i H x H' hi _ ⟨e1, e2⟩ => ?_
  · rcases h with h | ⟨rfl, h⟩
    · cases k
      · exact fg _ _ h
      · exact h
    · exact h
  · obtain ⟨d, h1, h2⟩ := r.get' e2
    exact ⟨d, h1, .inl ⟨e1, h2⟩⟩
theorem i_seq (hK : X.K = S.K) (h : PE X e (rdE S B M W .clean f)) : PI X tg e (rdI S B M W true false (iSeq f)) :=
  PI.imp (pi_any h) fun r H R ⟨g, m, j, P, E, ok, hf, q, xo⟩ => by
    refine ⟨g, m, j, _, E, ok, hf, fun d j1 g1 v H1 hh l1 ok1 w => ?_, xo⟩
    obtain ⟨xs, hx, p⟩ := hh
    unfold seqL at hx
    split at hx
    · cases hx
      obtain ⟨a, vs, rfl, ha, ra⟩ := lst_of w
      exact .inl ⟨a, rfl, ⟨vs, .of ((ok1.b.fg.trans ok1.b.gh) _ _ ha)⟩, q _ _ g1 H1 _ p l1 ok1 (walkD_seq hK (.inl ha) ok1.b.fg ra)⟩
    · cases hx
      obtain ⟨a, vs, rfl, ha, ra⟩ := tup_of w
      refine .inr (.inl ⟨a, rfl, ⟨vs, by rw [hK]; exact sqT_same (ok1.b.fg.trans ok1.b.gh) ha.t⟩, q _ _ g1 H1 _ p l1 ok1 ?_⟩)
      have w := walk_tup (K := X.K) (a := a) (xs := vs)
      rw [← ra.length] at w
      refine w.mono (fun H s => by rw [hK]; exact sqT_same s ha.t) fun i H x H' hi _ ⟨e1, e2⟩ => ?_
      obtain ⟨d, h1, h2⟩ := ra.get' e2
      exact ⟨d, h1, .inl ⟨e1, h2⟩⟩
    · rename_i z
      cases hx
      rw [str_of w]
      refine .inr (.inr ⟨_, rfl, q _ _ g1 H1 _ p l1 ok1 ?_⟩)
      have w := walk_str (z := z)
      have el : (z.cps.toList.map fun c => D.str ⟨#[c]⟩).length = z.cps.size := by simp
      unfold WalkD
      rw [el]
      refine w.mono (fun H s => trivial) fun i H x H' hi _ ⟨e1, c, e2, e3⟩ => ?_
      refine ⟨.str ⟨#[c]⟩, ?_, .inl ⟨e1, by rw [e3]; exact .str _⟩⟩
      rw [List.getElem?_map]
      simp [e2]
    · cases hx
theorem walkD_rng {lo : Int} {n : Nat} {g : Gh} {k : Bool} : WalkD S (Itr lo n) (rngD lo n) k false g := by
  unfold WalkD
  rw [rngD_length]
  exact (walk_range (lo := lo) (n := n)).mono (fun _ _ => trivial) fun i H x H' hi _ ⟨e1, e2⟩ => ⟨_, rngD_get hi, .inl ⟨e1, by rw [e2]; exact .int _⟩⟩
theorem i_rng1 (hg : Gl X "range") (hm : X.mg "range" = none) (ha : PE X a (rdE S B M W .mix fa)) (hs : starEach [a] X.env = [(false, eval a X.env)]) : PI X tg (.Call (.Name "range" p) [a] [] pos) (rdI S B M W true false (iRng1 fa)) :=
  PI.imp (pi_range1 hg hm (pa_cons ha pa_nil hs) hs) fun r H R ⟨g, m, j, P, E, ok, hf, q, xo⟩ => by
    have hl : LIM = 2 ^ 61 := rfl
    exact ⟨g, m, j, _, E, ok, hf, fun d j1 g1 v H1 ⟨n, ed, c1, c2, p⟩ l1 ok1 w => ⟨n, by subst ed; rw [int_of w], by omega, by omega, q _ _ g1 H1 _ p l1 ok1 walkD_rng⟩, xo⟩
theorem i_rng2 (hg : Gl X "range") (hm : X.mg "range" = none) (ha : PE X a (rdE S B M W .mix fa)) (hb : PE X b (rdE S B M W .mix fb)) (hs : starEach [a, b] X.env = [(false, eval a X.env), (false, eval b X.env)]) (hs2 : starEach [b] X.env = [(false, eval b X.env)]) :
    PI X tg (.Call (.Name "range" p) [a, b] [] pos) (rdI S B M W true false (iRng2 fa fb)) :=
  PI.imp (pi_range2 hg hm (pa_cons ha (pa_cons hb pa_nil hs2) (by rw [hs, hs2])) hs hs2) fun r H R ⟨g, m, j, P, E, ok, hf, q, xo⟩ => by
    have hl : LIM = 2 ^ 61 := rfl
    exact ⟨g, m, j, _, E, ok, hf, fun d j1 g1 v H1 h1 l1 ok1 w => ⟨g1, m, _, _, E, ok1, h1, fun d2 j2 g2 v2 H2 ⟨n, k, e1, e2, c1, c2, c3, c4, p⟩ l2 ok2 w2 => ⟨n, k, by subst e1 e2; rw [int_of w, int_of w2], ⟨by omega, by omega, by omega, by omega⟩, q _ _ g2 H2 _ p (l1.trans l2) ok2 walkD_rng⟩, xo.le l1.f⟩, xo⟩
theorem zipD_length (xs ys : List D) : (zipD xs ys).length = min xs.length ys.length := by unfold zipD; simp
theorem zipD_get {xs ys : List D} {i : Nat} {d e : D} (h : xs[i]? = some d) (h' : ys[i]? = some e) : (zipD xs ys)[i]? = some (.tup [d, e]) := by
  unfold zipD
  rw [List.getElem?_map, List.getElem?_zip_eq_some (z := (d, e)) |>.mpr ⟨h, h'⟩]
  rfl
theorem walk_zipT {K : PySem.W.Frag} {a b : Addr} {xs ys : List V} {n : Nat} (hn : n = min xs.length ys.length) : Walk (RZ.ItzT K a b) n (fun H => SqT K H a xs ∧ SqT K H b ys) (YPair (fun i => xs[i]?) (fun i => ys[i]?)) := by
  subst hn
  refine ⟨fun i _ hi q => ?_, fun _ q => ⟨xs, ys, q.1, q.2, by omega⟩, fun i H v H' _ q y => ?_⟩
  · have h1 : i < xs.length := by omega
    have h2 : i < ys.length := by omega
    exact ⟨xs, ys, xs[i], ys[i], q.1, q.2, by simp [h1], by simp [h2]⟩
  · obtain ⟨T, x, z, h1, h2, h3, h4, h5⟩ := y
    exact ⟨T, x, z, h1, h2, h3, h4 xs q.1, h5 ys q.2⟩
theorem i_zip {elts : List Expr} {kk : Nat} {tpos : Pos} (hK : X.K = S.K) (hg : Gl X "zip") (hm : X.mg "zip" = none) (ha : PE X a (rdE S B M W .clean fa)) (hb : PE X b (rdE S B M W .clean fb))
    (hs : starEach [a, b] X.env = (false, eval a X.env) :: starEach [b] X.env) (hs2 : starEach [b] X.env = [(false, eval b X.env)]) (hpl : (backTo pos (starEach [b] X.env)).any (·.1) = false) :
    PI X (.Tuple elts kk tpos) (.Call (.Name "zip" p) [a, b] [] pos) (rdI S B M W true true (iZip fa fb)) :=
  PI.imp (RZ.pi_zipA hg hm (pa_cons ha (pa_cons hb pa_nil hs2) hs) hs hpl) fun r H R ⟨g, m, j, P, E, ok, hf, q, xo⟩ => by
    refine ⟨g, m, j, _, E, ok, hf, fun x j1 g1 v H1 h1 l1 ok1 w => ⟨g1, m, _, _, E, ok1, h1, fun y j2 g2 v2 H2 ⟨zs, hz, p⟩ l2 ok2 w2 => ?_, xo.le l1.f⟩, xo⟩
    unfold zipO at hz
    split at hz
    · cases hz
      obtain ⟨a, vs, rfl, ha, ra⟩ := lst_of (w.le l2)
      obtain ⟨b, ws, rfl, hb, rb⟩ := lst_of w2
      have fh := ok2.b.fg.trans ok2.b.gh
      refine ⟨a, b, vs, ws, rfl, .inl ⟨.of (fh _ _ ha), .of (fh _ _ hb), q _ _ g2 H2 _ p (l1.trans l2) ok2 ?_⟩⟩
      unfold WalkD
      refine (walk_zip (K := X.K) (a := a) (b := b) (xs := vs) (ys := ws) (by rw [zipD_length, ra.length, rb.length])).mono (fun H s => ⟨.of (s _ _ ha), .of (s _ _ hb)⟩) fun i H x H' hi _ y => ?_
      obtain ⟨T, x1, y1, e1, e2, e3, e4, e5⟩ := y
      obtain ⟨d1, h3, h4⟩ := ra.get' e4
      obtain ⟨d2, h5, h6⟩ := rb.get' e5
      exact ⟨_, zipD_get h3 h5, .inr (.inl ⟨rfl, T, _, _, e1, e2, e3, rfl, .cons h4 (.cons h6 .nil)⟩)⟩
    · cases hz
      obtain ⟨a, vs, rfl, ha, ra⟩ := tup_of (w.le l2)
      obtain ⟨b, ws, rfl, hb, rb⟩ := tup_of w2
      have fh := ok2.b.fg.trans ok2.b.gh
      refine ⟨a, b, vs, ws, rfl, .inr ⟨by rw [hK]; exact sqT_same fh ha.t, by rw [hK]; exact sqT_same fh hb.t, q _ _ g2 H2 _ p (l1.trans l2) ok2 ?_⟩⟩
      unfold WalkD
      refine (walk_zipT (K := X.K) (a := a) (b := b) (xs := vs) (ys := ws) (by rw [zipD_length, ra.length, rb.length])).mono (fun H s => ⟨by rw [hK]; exact sqT_same s ha.t, by rw [hK]; exact sqT_same s hb.t⟩) fun i H x H' hi _ y => ?_
      obtain ⟨T, x1, y1, e1, e2, e3, e4, e5⟩ := y
      obtain ⟨d1, h3, h4⟩ := ra.get' e4
      obtain ⟨d2, h5, h6⟩ := rb.get' e5
      exact ⟨_, zipD_get h3 h5, .inr (.inl ⟨rfl, T, _, _, e1, e2, e3, rfl, .cons h4 (.cons h6 .nil)⟩)⟩
    · cases hz
end
end Mp

/-! Mp6: targets, comprehensions, list(range(..)). -/
namespace Mp
open PySem PySem.Spec L2
variable {J : Type}

section
variable {S : Js J} {B : Bs} {M : Nat → Bool} {X : Cx} {g g' : Gh} {r : St} {m : Sd} {H : Hp} {j : J} {i : Nat} {d : D} {v : V}
theorem Slots.set_fr (h : Slots S g M r m) (hM : M i = false) (rp : Rp S g.F d v) : Slots S g M (r.set i (some v)) (m.set i (some d)) := by
  have get : ∀ {k : Nat} {e : D}, (m.set i (some d))[k]? = some (some e) → (k = i ∧ e = d ∧ i < m.length) ∨ (k ≠ i ∧ m[k]? = some (some e)) := fun {k e} q => by
    by_cases hk : k = i
    · subst hk
      by_cases hl : k < m.length
      · rw [List.getElem?_set_self hl] at q
        cases q
        exact .inl ⟨rfl, rfl, hl⟩
      · rw [List.getElem?_eq_none (by simpa using hl)] at q
        cases q
    · rw [List.getElem?_set_ne (Ne.symm hk)] at q
      exact .inr ⟨hk, q⟩
  refine ⟨by simpa using h.len, fun k e q hk => ?_, fun k e q hk => ?_, fun k l a e e' q1 q2 hk hl h1 h2 => ?_⟩
  · rcases get q with ⟨rfl, rfl, hl⟩ | ⟨hn, q⟩
    · exact ⟨v, by rw [List.getElem?_set_self (by rw [h.len]; exact hl)], rp⟩
    · obtain ⟨w, h1, h2⟩ := h.fr k e q hk
      exact ⟨w, by rw [List.getElem?_set_ne (Ne.symm hn)]; exact h1, h2⟩
  · rcases get q with ⟨rfl, rfl, hl⟩ | ⟨hn, q⟩
    · rw [hM] at hk; cases hk
    · obtain ⟨w, h1, h2⟩ := h.ow k e q hk
      exact ⟨w, by rw [List.getElem?_set_ne (Ne.symm hn)]; exact h1, h2⟩
  · rcases get q1 with ⟨rfl, rfl, _⟩ | ⟨n1, q1⟩
    · rw [hM] at hk; cases hk
    · rcases get q2 with ⟨rfl, rfl, _⟩ | ⟨n2, q2⟩
      · rw [hM] at hl; cases hl
      · rw [List.getElem?_set_ne (Ne.symm n1)] at h1
        rw [List.getElem?_set_ne (Ne.symm n2)] at h2
        exact h.dj k l a e e' q1 q2 hk hl h1 h2
/-- an owned thing comes to a slot -/
theorem Slots.set_ow {a : Addr} (h : Slots S g M r m) (hM : M i = true) (o : Own S g d a) (apart : ∀ k e, k ≠ i → M k = true → m[k]? = some (some e) → r[k]? ≠ some (some (.ref a))) : Slots S g M (r.set i (some (.ref a))) (m.set i (some d)) := by
  have get : ∀ {k : Nat} {e : D}, (m.set i (some d))[k]? = some (some e) → (k = i ∧ e = d ∧ i < m.length) ∨ (k ≠ i ∧ m[k]? = some (some e)) := fun {k e} q => by
    by_cases hk : k = i
    · subst hk
      by_cases hl : k < m.length
      · rw [List.getElem?_set_self hl] at q
        cases q
        exact .inl ⟨rfl, rfl, hl⟩
      · rw [List.getElem?_eq_none (by simpa using hl)] at q
        cases q
    · rw [List.getElem?_set_ne (Ne.symm hk)] at q
      exact .inr ⟨hk, q⟩
  refine ⟨by simpa using h.len, fun k e q hk => ?_, fun k e q hk => ?_, fun k l b e e' q1 q2 hk hl h1 h2 => ?_⟩
  · rcases get q with ⟨rfl, rfl, hl⟩ | ⟨hn, q⟩
    · rw [hM] at hk; cases hk
    · obtain ⟨w, h1, h2⟩ := h.fr k e q hk
      exact ⟨w, by rw [List.getElem?_set_ne (Ne.symm hn)]; exact h1, h2⟩
  · rcases get q with ⟨rfl, rfl, hl⟩ | ⟨hn, q⟩
    · exact ⟨a, by rw [List.getElem?_set_self (by rw [h.len]; exact hl)], o⟩
    · obtain ⟨w, h1, h2⟩ := h.ow k e q hk
      exact ⟨w, by rw [List.getElem?_set_ne (Ne.symm hn)]; exact h1, h2⟩
  · rcases get q1 with ⟨rfl, rfl, hl1⟩ | ⟨n1, q1'⟩
    · rcases get q2 with ⟨rfl, rfl, _⟩ | ⟨n2, q2⟩
      · rfl
      · rw [List.getElem?_set_self (by rw [h.len]; exact hl1)] at h1
        cases h1
        rw [List.getElem?_set_ne (Ne.symm n2)] at h2
        exact absurd h2 (apart l e' n2 hl q2)
    · rcases get q2 with ⟨rfl, rfl, hl2⟩ | ⟨n2, q2⟩
      · rw [List.getElem?_set_self (by rw [h.len]; exact hl2)] at h2
        cases h2
        rw [List.getElem?_set_ne (Ne.symm n1)] at h1
        exact absurd h1 (apart k e n1 hk (by assumption))
      · rw [List.getElem?_set_ne (Ne.symm n1)] at h1
        rw [List.getElem?_set_ne (Ne.symm n2)] at h2
        exact h.dj k l b e e' q1' q2 hk hl h1 h2
/-- what is seen, not frozen, and none of the slots' -/
theorem Slots.apart_fresh {a : Addr} (h : Slots S g M r m) (n : g.G a = none) : ∀ k e, k ≠ i → M k = true → m[k]? = some (some e) → r[k]? ≠ some (some (.ref a)) := fun k e _ hk q z => by
  obtain ⟨b, h1, h2⟩ := h.ow k e q hk
  rw [z] at h1
  cases h1
  obtain ⟨o, ho⟩ := h2.in_g
  rw [n] at ho
  cases ho
end

/-! ### targets -/
abbrev Gv := D → Sd → Option Sd
abbrev Gvs := List D → Sd → Option Sd
def gNm (i : Nat) : Gv := fun d m => some (m.set i (some d))
def gsNil : Gvs := fun ds m => match ds with | [] => some m | _ => none
def gsCons (γ : Gv) (γs : Gvs) : Gvs := fun ds m => match ds with
  | d :: ds => match γ d m with
    | some m1 => γs ds m1
    | none => none
  | [] => none
def gTp (γs : Gvs) : Gv := fun d m => match d with
  | .tup ds => γs ds m
  | _ => none
/-- an item of a walk: data, or (w) a tuple just made of data -/
def RpX (S : Js J) (F : Hp) (w : Bool) (d : D) (v : V) : Prop := Rp S F d v ∨ (w = true ∧ ∃ T vs es, v = .ref T ∧ F T = some (.tup vs) ∧ d = .tup es ∧ RpL S F es vs)
section
variable (S : Js J) (B : Bs) (M : Nat → Bool)
def rdG (w : Bool) (ks : List Nat) (γ : Gv) : TG := fun v r H Q => ∃ g m j d m', Ok S B g M r H m j ∧ RpX S g.F w d v ∧ γ d m = some m' ∧ ∀ r', Ok S B g M r' H m' j → r'.length = r.length → (∀ k, k ∉ ks → r'[k]? = r[k]?) → Q r' H
def rdGs (ks : List Nat) (γ : Gvs) : TGs := fun vs r H Q => ∃ g m j ds m', Ok S B g M r H m j ∧ RpL S g.F ds vs ∧ γ ds m = some m' ∧ ∀ r', Ok S B g M r' H m' j → r'.length = r.length → (∀ k, k ∉ ks → r'[k]? = r[k]?) → Q r' H
end
theorem PG.imp {X : Cx} {e : Expr} {t t' : TG} (h : PG X e t) (i : ∀ v r H Q, t' v r H Q → t v r H Q) : PG X e t' := ⟨fun pins s σ H v u Q I rv q => h.run pins s σ H v u Q I rv (i _ _ _ _ q)⟩
theorem PGs.imp {X : Cx} {e : List Expr} {t t' : TGs} (h : PGs X e t) (i : ∀ v r H Q, t' v r H Q → t v r H Q) : PGs X e t' := ⟨fun pins s σ H v u Q I rv q => h.run pins s σ H v u Q I rv (i _ _ _ _ q)⟩
section
variable {S : Js J} {B : Bs} {M : Nat → Bool} {X : Cx} {e : Expr} {es : List Expr} {pos : Pos}
theorem g_name {i : Nat} {x : Str} (hM : M i = false) (hN : X.N.Nodup) (hi : X.N[i]? = some x) (hx : Loc X.env.scope x) (hf : X.fn x = true ∨ X.env.scope.names.lookup x = some .local) : PG X (.Name x pos) (rdG S B M false [i] (gNm i)) :=
  PG.imp (pg_name hN hi hx hf) fun v r H Q ⟨g, m, j, d, m', ok, rp, e, q⟩ => by
    unfold gNm at e
    cases e
    have rp : Rp S g.F d v := rp.elim id fun z => nomatch z.1
    exact q _ ⟨ok.b, ok.s.set_fr hM rp⟩ (by simp) fun k hk => List.getElem?_set_ne (by simpa using fun z => hk (by simp [z]))
theorem gs_nil {ks : List Nat} : PGs X [] (rdGs S B M ks gsNil) := PGs.imp pgs_nil fun vs r H Q ⟨g, m, j, ds, m', ok, rp, e, q⟩ => by
  unfold gsNil at e
  split at e
  · cases e
    cases rp
    exact ⟨rfl, q r ok rfl fun _ _ => rfl⟩
  · cases e
theorem gs_cons {ks ks' : List Nat} {γ : Gv} {γs : Gvs} (h1 : PG X e (rdG S B M false ks γ)) (h2 : PGs X es (rdGs S B M ks' γs)) (hs : (assignEach (e :: es) X.env).map (·.2) = assign e X.env :: (assignEach es X.env).map (·.2)) :
    PGs X (e :: es) (rdGs S B M (ks ++ ks') (gsCons γ γs)) := PGs.imp (pgs_cons h1 h2 hs) fun vs r H Q ⟨g, m, j, ds, m', ok, rp, e, q⟩ => by
  unfold gsCons at e
  split at e
  · split at e
    · cases rp with
      | cons rp1 rp2 =>
        refine ⟨_, _, rfl, g, m, j, _, _, ok, .inl rp1, by assumption, fun r1 ok1 l1 k1 => ⟨g, _, j, _, _, ok1, rp2, e, fun r2 ok2 l2 k2 => ?_⟩⟩
        refine q r2 ok2 (l2.trans l1) fun k hk => ?_
        rw [List.mem_append, not_or] at hk
        exact (k2 k hk.2).trans (k1 k hk.1)
    · cases e
  · cases e
theorem g_tup {w : Bool} {kt n : Nat} {ks : List Nat} {γs : Gvs} (hK : X.K = S.K) (hc : X.calm = true) (h : PGs X es (rdGs S B M ks γs)) (hn : (assignEach es X.env).length = n) (hst : (assignEach es X.env).findIdx? (·.1) = none) (hl : ∀ ds m m', γs ds m = some m' → ds.length = n) :
    PG X (.Tuple es kt pos) (rdG S B M w ks (gTp γs)) := PG.imp (pg_tup hc h hn hst) fun v r H Q ⟨g, m, j, d, m', ok, rp, e, q⟩ => by
  unfold gTp at e
  split at e
  · rcases rp with rp | ⟨_, T, vs, es, rfl, hT, he, ra⟩
    · obtain ⟨a, vs, rfl, ha, ra⟩ := tup_of rp
      exact ⟨a, vs, rfl, by rw [hK]; exact sqT_same (ok.b.fg.trans ok.b.gh) ha.t, by rw [← ra.length]; exact hl _ _ _ e, g, m, j, _, _, ok, ra, e, q⟩
    · cases he
      exact ⟨T, vs, rfl, .of ((ok.b.fg.trans ok.b.gh) _ _ hT), by rw [← ra.length]; exact hl _ _ _ e, g, m, j, _, _, ok, ra, e, q⟩
  · cases e
end

/-! ### comprehensions -/
theorem wipe_get {σ : St} : ∀ (vs : List Nat) (i : Nat), (wipe σ vs)[i]? = if i ∈ vs then (σ[i]?).map (fun _ => none) else σ[i]?
  | [], i => by simp [wipe]
  | v :: vs, i => by
    unfold wipe
    by_cases h : i = v
    · subst h
      rw [if_pos List.mem_cons_self]
      by_cases hl : i < σ.length
      · rw [List.getElem?_set_self (by rw [wipe_length]; exact hl), List.getElem?_eq_getElem hl]; rfl
      · rw [List.getElem?_eq_none (by rw [List.length_set, wipe_length]; omega), List.getElem?_eq_none (by omega)]; rfl
    · rw [List.getElem?_set_ne (Ne.symm h), wipe_get vs i]
      by_cases hm : i ∈ vs
      · rw [if_pos hm, if_pos (List.mem_cons_of_mem _ hm)]
      · rw [if_neg hm, if_neg (by simp [h, hm])]
theorem wipe_congr {r r' : St} {vs : List Nat} (hl : r'.length = r.length) (h : ∀ k, k ∉ vs → r'[k]? = r[k]?) : wipe r' vs = wipe r vs := by
  apply List.ext_getElem?
  intro i
  rw [wipe_get, wipe_get]
  by_cases hm : i ∈ vs
  · rw [if_pos hm, if_pos hm]
    by_cases hi : i < r.length
    · rw [List.getElem?_eq_getElem hi, List.getElem?_eq_getElem (by omega)]; rfl
    · rw [List.getElem?_eq_none (by omega), List.getElem?_eq_none (by omega)]
  · rw [if_neg hm, if_neg hm]; exact h i hm
theorem wipe_wipe (r : St) (vs : List Nat) : wipe (wipe r vs) vs = wipe r vs := wipe_congr (wipe_length _ _) fun k hk => by rw [wipe_get, if_neg hk]
def wipeD (m : Sd) : List Nat → Sd
  | [] => m
  | v :: vs => (wipeD m vs).set v none
theorem wipeD_length (m : Sd) : ∀ vs, (wipeD m vs).length = m.length
  | [] => rfl
  | v :: vs => by unfold wipeD; rw [List.length_set, wipeD_length]
theorem wipeD_some {m : Sd} {i : Nat} {d : D} : ∀ {vs : List Nat}, (wipeD m vs)[i]? = some (some d) → m[i]? = some (some d) ∧ i ∉ vs
  | [], h => ⟨h, by simp⟩
  | v :: vs, h => by
    unfold wipeD at h
    by_cases hi : v = i
    · subst hi
      by_cases hv : v < (wipeD m vs).length
      · rw [List.getElem?_set_self hv] at h; cases h
      · rw [List.getElem?_eq_none (by simpa using hv)] at h; cases h
    · rw [List.getElem?_set_ne hi] at h
      obtain ⟨h1, h2⟩ := wipeD_some h
      exact ⟨h1, by simp only [List.mem_cons, not_or]; exact ⟨fun e => hi e.symm, h2⟩⟩
theorem Slots.wipe {S : Js J} {g : Gh} {M : Nat → Bool} {r : St} {m : Sd} (h : Slots S g M r m) (vs : List Nat) : Slots S g M (wipe r vs) (wipeD m vs) :=
  ⟨by rw [wipe_length, wipeD_length]; exact h.len, fun i d e q => by
    obtain ⟨e, n⟩ := wipeD_some e
    obtain ⟨v, h1, h2⟩ := h.fr i d e q
    exact ⟨v, by rw [wipe_get, if_neg n]; exact h1, h2⟩, fun i d e q => by
    obtain ⟨e, n⟩ := wipeD_some e
    obtain ⟨v, h1, h2⟩ := h.ow i d e q
    exact ⟨v, by rw [wipe_get, if_neg n]; exact h1, h2⟩, fun i k a d e q1 q2 hi hk h1 h2 => by
    obtain ⟨q1, n1⟩ := wipeD_some q1
    obtain ⟨q2, n2⟩ := wipeD_some q2
    rw [wipe_get, if_neg n1] at h1
    rw [wipe_get, if_neg n2] at h2
    exact h.dj i k a d e q1 q2 hi hk h1 h2⟩
section
variable {S : Js J} {B : Bs} {g : Gh} {H : Hp} {j : J} {p : Addr}
/-- a thing that nobody sees is written -/
theorem OkB.out (k : OkB S B g H j) {o o' : HO} (h : H p = some o') (ho : ∀ x y, o' ≠ .frz x y) (n1 : g.G p = none) (n2 : ¬ g.A p) (n3 : B.H0 p = none) : OkB S B g (upd H p o) j := by
  refine ⟨k.fg, fun b u e => ?_, k.ga, S.frame k.jr (Same.refl _) fun b z => upd_ne fun q => n2 (q ▸ z), k.f0, k.g0, k.a0, fun b u e n => ?_, fun b e => ?_, ?_⟩
  · rw [upd_ne (ne_of_none e n1)]; exact k.gh b u e
  · rw [upd_ne (ne_of_none e n3)]; exact k.h0 b u e n
  · by_cases hb : b = p
    · subst hb; rw [upd_same] at e; cases e
    · rw [upd_ne hb] at e; exact k.h1 b e
  · obtain ⟨o1, u1, e1⟩ := k.sm
    refine ⟨o1, u1, ?_⟩
    rw [upd_ne fun z => ho o1 u1 (by rw [z, h] at e1; exact Option.some.inj e1)]
    exact e1
/-- .. is new to the heap, and nobody sees it -/
theorem OkB.lay (k : OkB S B g H j) (o : HO) (h : H p = none) : OkB S B g (upd H p o) j := by
  obtain ⟨_, n1, n2, n3⟩ := k.hn h
  refine ⟨k.fg, fun b u e => ?_, k.ga, S.frame k.jr (Same.refl _) fun b z => upd_ne fun q => n2 (q ▸ z), k.f0, k.g0, k.a0, fun b u e n => ?_, fun b e => ?_, ?_⟩
  · rw [upd_ne (ne_of_none e n1)]; exact k.gh b u e
  · rw [upd_ne (ne_of_none e n3)]; exact k.h0 b u e n
  · by_cases hb : b = p
    · subst hb; rw [upd_same] at e; cases e
    · rw [upd_ne hb] at e; exact k.h1 b e
  · obtain ⟨o1, u1, e1⟩ := k.sm
    exact ⟨o1, u1, by rw [upd_ne (ne_of_none e1 h)]; exact e1⟩
/-- .. is seen from now on -/
theorem OkB.adopt (k : OkB S B g H j) {o : HO} (h : H p = some o) (n1 : g.G p = none) (n2 : ¬ g.A p) (n3 : B.H0 p = none) : OkB S B (g.see p o) H j := by
  refine ⟨k.fg.trans (same_new n1), fun b u e => ?_, fun b u e => ?_, k.jr, k.f0, fun b u e => ?_, k.a0, k.h0, k.h1, k.sm⟩
  · have e' : upd g.G p o b = some u := e
    by_cases hb : b = p
    · subst hb; rw [upd_same] at e'; rw [h]; exact e'
    · rw [upd_ne hb] at e'; exact k.gh b u e'
  · have e' : upd g.G p o b = some u := e
    by_cases hb : b = p
    · subst hb; exact n2
    · rw [upd_ne hb] at e'; exact k.ga b u e'
  · have e' : upd g.G p o b = some u := e
    by_cases hb : b = p
    · subst hb; exact .inr n3
    · rw [upd_ne hb] at e'; exact k.g0 b u e'
end

/-- what is seen, without one thing -/
def Gh.hide (g : Gh) (p : Addr) : Gh := ⟨g.F, fun b => if b = p then none else g.G b, g.A⟩
section
variable {S : Js J} {B : Bs} {g g' : Gh} {H : Hp} {j : J} {p : Addr}
theorem hide_sub {g : Gh} {p : Addr} : Same (g.hide p).G g.G := fun b o e => by
  have e' : (if b = p then none else g.G b) = some o := e
  by_cases hb : b = p
  · rw [if_pos hb] at e'; cases e'
  · rw [if_neg hb] at e'; exact e'
theorem OkB.hide (k : OkB S B g H j) (n : g.F p = none) : OkB S B (g.hide p) H j :=
  ⟨fun b o e => by
    show (if b = p then none else g.G b) = some o
    rw [if_neg (ne_of_none e n)]
    exact k.fg b o e, hide_sub.trans k.gh, fun b o e => k.ga b o (hide_sub b o e), k.jr, k.f0, fun b o e => k.g0 b o (hide_sub b o e), k.a0, k.h0, k.h1, k.sm⟩
theorem Le.hide {o : HO} (l : Le (g.see p o) g') (n : g.G p = none) : Le g (g'.hide p) :=
  ⟨l.f, fun b u e => by
    have hb : b ≠ p := ne_of_none e n
    show (if b = p then none else g'.G b) = some u
    rw [if_neg hb]
    refine l.g b u ?_
    show upd g.G p o b = some u
    rw [upd_ne hb]; exact e, fun b u e => by
    rcases l.n b u e with h | h
    · exact .inl h
    · right
      have h' : upd g.G p o b = none := h
      by_cases hb : b = p
      · subst hb; rw [upd_same] at h'; cases h'
      · rw [upd_ne hb] at h'; exact h'⟩
end

def compW (wm : Sd) (γ : Gv) (ft : Tv J) (fe : Ev J) : List D → List D → J → (List D → J → Prop) → Prop
  | [], acc, j, P => P acc j
  | d :: ds, acc, j, P => ∃ m2, γ d wm = some m2 ∧ ft m2 j (fun b j1 => if b = true then fe m2 j1 (fun y j2 => compW wm γ ft fe ds (acc ++ [y]) j2 P) xNo else compW wm γ ft fe ds acc j1 P) xNo
def eComp (vs : List Nat) (fi : Iv J) (γ : Gv) (ft : Tv J) (fe : Ev J) (m : Sd) (j : J) (P : D → J → Prop) (E : XP J) : Prop :=
  fi m j (fun ds j1 => ds.length ≤ LINE ∧ compW (wipeD m vs) γ ft fe ds [] j1 (fun ys j2 => P (.lst ys) j2)) E
theorem compW_mo {wm : Sd} {γ : Gv} {ft : Tv J} {fe : Ev J} [ht : MoT ft] [he : MoE fe] : ∀ {ds acc : List D} {j : J} {P P' : List D → J → Prop}, compW wm γ ft fe ds acc j P → (∀ ys j', P ys j' → P' ys j') → compW wm γ ft fe ds acc j P'
  | [], _, _, _, _, h, q => q _ _ h
  | _ :: _, _, _, _, _, ⟨m2, e, h⟩, q => ⟨m2, e, ht.mo h (fun _ _ p => ite_mono p (fun p => he.mo p (fun _ _ p => compW_mo p q) fun _ _ _ x => x) fun p => compW_mo p q) fun _ _ _ x => x⟩
instance {vs : List Nat} {fi : Iv J} {γ : Gv} {ft : Tv J} {fe : Ev J} [hi : MoA fi] [ht : MoT ft] [he : MoE fe] : MoE (eComp vs fi γ ft fe) := ⟨fun h q x => hi.mo h (fun _ _ ⟨l, p⟩ => ⟨l, compW_mo p fun _ _ p => q _ _ p⟩) x⟩
section
variable {S : Js J} {B : Bs} {M : Nat → Bool} {W : WX} {X : Cx} {elt tg iter : Expr} {ifs : List Expr} {scope : Scope} {own : List (Str × Nat)} {pos : Pos} {fi : Iv J} {γ : Gv} {ft : Tv J} {fe : Ev J} {ks : List Nat} {c w : Bool}
theorem ts_nil {X : Cx} : PTs X [] (rdT S B M W tYesD) := ⟨fun pins s σ H Q I ⟨g, m, j, P, E, ok, hf, q, _⟩ => pts_nil.run pins s σ H Q I (q _ _ g H hf (Le.refl g) ok)⟩
theorem lc_rd {R : St} {H : Hp} {Q : VK} (hks : ∀ k ∈ ks, k ∈ own.map (·.2)) (h : rdE S B M W .fresh (eComp (own.map (·.2)) fi γ ft fe) R H Q) :
    tLc (rdI S B M W c w fi) (rdG S B M w ks γ) (rdT S B M W0 ft) (rdE S B M W0 .clean fe) (own.map (·.2)) R H Q := by
  obtain ⟨g, m, j, P, E, ok, hf, q, xo⟩ := h
  refine ⟨g, m, j, _, E, ok, hf, fun ds j1 g1 H1 Jt hh l1 ok1 wk => fun Dd nD => ?_, xo⟩
  obtain ⟨hl, h2⟩ := hh
  obtain ⟨n1, n2, n3, n4⟩ := ok1.b.hn nD
  refine lc_it wk (fun i Hh => ∃ (gi : Gh) (ji : J) (accD : List D) (accV : List V), Le g1 gi ∧ Ok S B gi M (wipe R (own.map (·.2))) Hh (wipeD m (own.map (·.2))) ji ∧ Hh Dd = some (.lst accV) ∧ gi.G Dd = none ∧ ¬ gi.A Dd ∧
    RpL S gi.F accD accV ∧ compW (wipeD m (own.map (·.2))) γ ft fe (ds.drop i) accD ji (fun ys j2 => P (.lst ys) j2) ∧ accD.length ≤ i) ?_ ?_ ?_ ?_
  · exact ⟨g1, j1, [], [], Le.refl _, ⟨ok1.b.lay _ nD, ok1.s.wipe _⟩, upd_same, n2, n3, .nil, by rw [List.drop_zero]; exact h2, Nat.le_refl _⟩
  · rintro i Hh hi ⟨gi, ji, accD, accV, li, oki, hD, hDG, hDA, ra, hc, ha⟩
    exact (hp_le li c).trans (oki.b.sub c)
  · rintro i x Hh Hh' hi ⟨gi, ji, accD, accV, li, oki, hD, hDG, hDA, ra, hc, ha⟩ ⟨dd, hdd, y⟩
    have hdrop : ds.drop i = dd :: ds.drop (i + 1) := by
      obtain ⟨hlt, he⟩ := List.getElem?_eq_some_iff.mp hdd
      rw [List.drop_eq_getElem_cons hlt, he]
    rw [hdrop] at hc
    obtain ⟨m2, hm2, hc⟩ := hc
    -- the new list is seen while the item is made
    have la : Le gi (gi.see Dd (.lst accV)) := Le.see hDG
    have oka : Ok S B (gi.see Dd (.lst accV)) M (wipe R (own.map (·.2))) Hh (wipeD m (own.map (·.2))) ji := ⟨oki.b.adopt hD hDG hDA n4, oki.s.le la⟩
    have item : ∃ g2, Le (gi.see Dd (.lst accV)) g2 ∧ Ok S B g2 M (wipe R (own.map (·.2))) Hh' (wipeD m (own.map (·.2))) ji ∧ RpX S g2.F w dd x := by
      rcases y with ⟨rfl, rp⟩ | ⟨hw, T, vs, es, rfl, hT, rfl, rfl, rl⟩ | ⟨T, o, vs, es, rfl, hT, hdo, rfl, rfl, rl⟩
      · exact ⟨_, Le.refl _, oka, .inl (rp.mono li.f)⟩
      · obtain ⟨t1, t2, t3, t4⟩ := oka.b.hn hT
        exact ⟨_, Le.frz oka.b.fg t2, ⟨oka.b.frz _ hT, oka.s.le (Le.frz oka.b.fg t2)⟩, .inr ⟨hw, T, vs, es, rfl, upd_same, rfl, (rl.mono li.f).mono (same_new t1)⟩⟩
      · obtain ⟨t1, t2, t3, t4⟩ := oka.b.hn hT
        exact ⟨_, Le.frz oka.b.fg t2, ⟨oka.b.frz _ hT, oka.s.le (Le.frz oka.b.fg t2)⟩, .inl (.tup (.inl ⟨o, upd_same, hdo⟩) ((rl.mono li.f).mono (same_new t1)))⟩
    obtain ⟨g2, l2, ok2, rp2⟩ := item
    -- behind the turn
    have back : ∀ (g5 : Gh) (H5 : Hp) (j5 : J) (o : List V), Le g2 g5 → OkB S B g5 H5 j5 → H5 Dd = some (.lst accV) ∧ Le gi (g5.hide Dd) ∧ OkB S B (g5.hide Dd) (upd H5 Dd (.lst o)) j5 ∧ (g5.hide Dd).G Dd = none ∧ ¬ (g5.hide Dd).A Dd := fun g5 H5 j5 o l5 ok5 => by
      have lz := l2.trans l5
      have hG5 : g5.G Dd = some (.lst accV) := lz.g _ _ upd_same
      have hF5 : g5.F Dd = none := by
        cases z : g5.F Dd with
        | none => rfl
        | some u =>
          rcases lz.n Dd u z with z | z
          · have z' : gi.F Dd = some u := z
            rw [oki.b.fg.free hDG] at z'; cases z'
          · have z' : upd gi.G Dd (.lst accV) Dd = none := z
            rw [upd_same] at z'; cases z'
      have hA5 : ¬ g5.A Dd := ok5.ga _ _ hG5
      refine ⟨ok5.gh _ _ hG5, lz.hide hDG, ?_, if_pos rfl, hA5⟩
      exact (ok5.hide hF5).out (ok5.gh _ _ hG5) (by intro x y z; cases z) (if_pos rfl) hA5 n4
    refine ⟨g2, _, ji, dd, m2, ok2, rp2, hm2, fun r3 ok3 len3 k3 => ⟨?_, ?_⟩⟩
    · rw [wipe_congr (r := wipe R (own.map (·.2))) len3 fun k hk => k3 k fun z => hk (hks k z), wipe_wipe]
    · refine ⟨g2, m2, ji, _, xNo, ok3, hc, fun b j3 g4 H4 p l4 ok4 => ite_mono p (fun p => ?_) (fun p => ?_), XOut.no⟩
      · refine ⟨g4, m2, _, _, xNo, ok4, p, fun y j4 g5 v5 H5 p l5 ok5 w5 => ?_, XOut.no⟩
        obtain ⟨b1, b2, b3, b4, b5⟩ := back g5 H5 j4 (accV ++ [v5]) (l4.trans l5) ok5.b
        refine ⟨accV, b1, ?_, g5.hide Dd, j4, accD ++ [y], accV ++ [v5], li.trans b2, ⟨b3, oki.s.le b2⟩, upd_same, b4, b5, (ra.mono b2.f).append (.cons w5 .nil), p, ?_⟩
        · rw [← ra.length]
          have := line_ok
          omega
        · rw [List.length_append]; simp only [List.length_cons, List.length_nil]; omega
      · obtain ⟨b1, b2, b3, b4, b5⟩ := back g4 H4 j3 accV l4 ok4.b
        have eH : upd H4 Dd (.lst accV) = H4 := by
          funext b
          by_cases hb : b = Dd
          · subst hb; rw [upd_same, b1]
          · rw [upd_ne hb]
        rw [eH] at b3
        exact ⟨g4.hide Dd, j3, accD, accV, li.trans b2, ⟨b3, oki.s.le b2⟩, b1, b4, b5, ra.mono b2.f, p, by omega⟩
  · rintro Hh ⟨gi, ji, accD, accV, li, oki, hD, hDG, hDA, ra, hc, ha⟩
    rw [List.drop_length] at hc
    have hc : P (.lst accD) ji := hc
    have l2 : Le gi (gi.see Dd (.lst accV)) := Le.see hDG
    refine q _ _ (gi.see Dd (.lst accV)) _ Hh hc ((l1.trans li).trans l2) ⟨oki.b.adopt hD hDG hDA n4, ok1.s.le (li.trans l2)⟩ ⟨Dd, rfl, l1.g.free n2, ?_, .inl ⟨accD, accV, rfl, upd_same, ra⟩⟩
    exact oki.b.fg.free hDG
theorem e_comp (hc : X.calm = true) (hN : X.N.Nodup) (hi : PI X tg iter (rdI S B M W c w fi)) (ok : BlkOk X.N X.env.scope scope own) (hks : ∀ k ∈ ks, k ∈ own.map (·.2))
    (hg : ∀ (s : Shared) (H : Hp) (C : Addr) (cl : List (Str × Addr)) (fp : List Addr), PG (X.blk s H scope (compEnvC scope cl C X.env) fp) tg (rdG S B M w ks γ)) (ht : ∀ (s : Shared) (H : Hp) (C : Addr) (cl : List (Str × Addr)) (fp : List Addr), PTs (X.blk s H scope (compEnvC scope cl C X.env) fp) ifs (rdT S B M W0 ft))
    (he : ∀ (s : Shared) (H : Hp) (C : Addr) (cl : List (Str × Addr)) (fp : List Addr), PE (X.blk s H scope (compEnvC scope cl C X.env) fp) elt (rdE S B M W0 .clean fe)) (hs : ∀ x, foldedSetIterable iter X.env x = pure x) :
    PE X (.ListComp elt [⟨tg, iter, ifs, 0⟩] scope pos) (rdE S B M W .fresh (eComp (own.map (·.2)) fi γ ft fe)) :=
  PE.imp (pe_lc hc hN hi ok hg ht he hs) fun _ _ _ h => lc_rd hks h
end
end Mp

/-! Mp7: defs by data, their calls; statements. -/
namespace Mp
open PySem PySem.Spec L2
open PyProof.Rows hiding St
variable {J : Type}

/-! ### a def's promise, where no repr is under way -/
structure FnG (P : Program) (w : World) (K : PySem.W.Frag) (mg : Str → Option Value) (base : Heap) (CX : CXT) (k : Nat) (f : Addr) (fd : FuncData) (ps : List Str) (sp : Sp) : Prop where
  len : ∀ vs H Q E, sp vs H Q E → vs.length = ps.length
  run : ∀ (A : Around) (outer : List Env) (s : Shared) (H : Hp) (args : Args) (us : List Value) (vs : List V) (Q : VK) (E : XK), Room k A → A.guards = some [] → Env0 P w K mg base A outer s H → BindsTo s fd args (ps.zip us) → Vals vs us → sp vs H Q E →
    codeAny (model P w) A (.call (.ref f) args) (CR CX outer P w H s Q E) s
theorem FnG.mono {P : Program} {w : World} {K : PySem.W.Frag} {mg : Str → Option Value} {base : Heap} {CX : CXT} {j k : Nat} {f : Addr} {fd : FuncData} {ps : List Str} {sp : Sp} (F : FnG P w K mg base CX j f fd ps sp) (h : j ≤ k) :
    FnG P w K mg base CX k f fd ps sp := ⟨F.len, fun A outer s H args us vs Q E hr => F.run A outer s H args us vs Q E (hr.mono h)⟩
theorem FnG.imp {P : Program} {w : World} {K : PySem.W.Frag} {mg : Str → Option Value} {base : Heap} {CX : CXT} {k : Nat} {f : Addr} {fd : FuncData} {ps : List Str} {sp sp' : Sp} (F : FnG P w K mg base CX k f fd ps sp)
    (h : ∀ vs H Q E, sp' vs H Q E → sp vs H Q E) : FnG P w K mg base CX k f fd ps sp' :=
  ⟨fun vs H Q E q => F.len vs H Q E (h _ _ _ _ q), fun A outer s H args us vs Q E hr hg he hb hv hs => F.run A outer s H args us vs Q E hr hg he hb hv (h _ _ _ _ hs)⟩
theorem fnG_of {CX : CXT} {P : Program} {w : World} {K : PySem.W.Frag} {mg : Str → Option Value} {base : Heap} {k : Nat} {f : Addr} {name qual : Str} {params : Arguments} {body : List Stmt} {scope : Scope} {dV kV doc pm cdv ct oc : Value} {an od : Option Addr}
    {osl : Array (Option Value)} {N ps : List Str} {sp : Sp} (lk : K.lookup f = some ⟨oc, od, .func (PySem.W.fnOf name qual params body scope dV kV doc pm an cdv ct), osl⟩) (hcd : PySem.W.codeIn K cdv qual = true) (S : FnScope N ps scope)
    (len : ∀ vs H Q E, sp vs H Q E → vs.length = ps.length)
    (hbody : ∀ (A : Around) (outer : List Env) (s : Shared) (H : Hp) (vs : List V) (Q : VK) (E : XK), Room k (A.deeper (envOfC qual scope s.heap.objs.size f cdv)) → (A.deeper (envOfC qual scope s.heap.objs.size f cdv)).guards = some [] → sp vs H Q E →
      ∃ t, PSs (cxOf CX P w K mg base N qual scope f cdv A outer s H E) body t ∧ t { nx := fun _ H' => Q .non H', rt := Q } (start N vs) H) :
    FnG P w K mg base CX (k + 1) f (PySem.W.fnOf name qual params body scope dV kV doc pm an cdv ct) ps sp := by
  refine ⟨len, fun A outer s H args us vs Q E hr hgd e0 hb r hsp => ?_⟩
  have hl := len _ _ _ _ hsp
  have KX : K.In s.heap := e0.mod.kin.keeps fun b o e => (e0.bs b o e).1
  have lim : s.heap.NoLimit := e0.mod.nolimit.keeps fun b o e => (e0.bs b o e).1
  have hkind : ∀ y ∈ ps.zip us, scope.names.lookup y.1 = some .local ∨ (scope.names.lookup y.1 = some .cell ∧ ((cellsFrom (s.heap.objs.size + 1) scope.names []).lookup y.1).isSome = true) := fun ⟨n, v⟩ hy => by
    rcases S.par n (List.of_mem_zip hy).1 with q | q
    · exact .inl q
    · exact .inr ⟨q, PySem.W.cellsFrom_some _ _ _ (.inl q)⟩
  refine codeAny_call_function hr.depth (KX _ _ lk) rfl S.co S.gen rfl (PySem.W.codeRec_of KX hcd) (hb _ _ _ _ ?_)
  refine wpAny_newFunctionEnv_cells S.kind hkind fun env he s1 x => ?_
  subst he
  refine ⟨lim.keeps x.toInCall.keep, codeAny_func ?_⟩
  obtain ⟨t, ht, hq⟩ := hbody A outer s H vs Q E (hr.deeper _) hgd hsp
  have I : Inv (cxOf CX P w K mg base N qual scope f cdv A outer s H E) [] (start N vs) H s1 := inv_start S hr.hd e0 hl r x
  refine wpAny_mono (ht.run [] s1 (start N vs) H _ I hq) (fun fl s' hs => ?_) fun e s' hs => hs
  have fin : ∀ {σ' : St} {H' : Hp} {v : V} {u : Value}, Inv (cxOf CX P w K mg base N qual scope f cdv A outer s H E) [] σ' H' s' → RelV v u → Q v H' → CE outer P w H s Q u s' :=
    fun {σ' H' v u} J rv q => ⟨v, H', J.os, J.bare, J.base, J.hok, rv, q⟩
  cases fl with
  | ret u =>
    obtain ⟨v, σ', H', J, rv, q⟩ := hs
    exact fin J rv q
  | next =>
    obtain ⟨σ', H', J, q⟩ := hs
    exact fin (v := V.non) (u := Value.none) J rfl q
  | brk =>
    obtain ⟨_, _, _, q⟩ := hs
    exact False.elim q
  | cont =>
    obtain ⟨_, _, _, q⟩ := hs
    exact False.elim q
section
variable {X : Cx} {CX : CXT} {k : Nat} {f C : Addr} {fd : FuncData} {ps : List Str} {sp : Sp} {dvs : List V} {ds : List Value} {E : XK} {x m : Str} {p pos apos : Pos} {e o : Expr} {es : List Expr} {ta : TE} {t : TA}
theorem run_fnG {pins : List (Addr × Obj)} {σ : St} {H : Hp} {s : Shared} {Q : VK} {us : List Value} {vs : List V} (F : FnG X.prog X.w X.K X.mg X.base CX k f fd ps sp) (hr : Room k X.A) (hgd : X.A.guards = some []) (hb : Binds X.K fd ps ds) (hd : Vals dvs ds) (hx : Passes CX X E)
    (I : Inv X pins σ H s) (r : Vals vs us) (h : sp (vs ++ dvs) H Q E) : wpAny (model X.prog X.w) X.A (call (.ref f) us) (EP X pins σ Q) X.xe s := by
  have r2 : Vals (vs ++ dvs) (us ++ ds) := r.append hd
  have hl : (us ++ ds).length = ps.length := by rw [← r2.length]; exact F.len _ _ _ _ h
  refine wpAny_call (codeAny_mono (F.run X.A X.stack s H ⟨us, []⟩ (us ++ ds) (vs ++ dvs) Q E hr hgd I.env0 (hb s us I.kIn hl) r2 h) fun r s' hq => ?_)
  cases r with
  | error e => exact hx pins σ H s e s' I hq
  | ok fl =>
    cases fl with
    | ret u => exact I.after hq
    | next => exact False.elim hq
    | brk => exact False.elim hq
    | cont => exact False.elim hq
theorem pe_callG (F : FnG X.prog X.w X.K X.mg X.base CX k f fd ps sp) (hr : Room k X.A) (hgd : X.A.guards = some []) (hg : Gl X x) (hm : X.mg x = some (.ref f)) (hk : PySem.W.keepIn X.K (.ref f) = true) (hb : Binds X.K fd ps ds) (hd : Vals dvs ds) (hx : Passes CX X E)
    (ha : PA X (e :: es) t) (hdb : (x == ("__debug__" : Str)) = false) (he : starEach (e :: es) X.env = (false, eval e X.env) :: starEach es X.env) (hpl : (backTo pos (starEach es X.env)).any (·.1) = false) :
    PE X (.Call (.Name x p) (e :: es) [] pos) (tCall sp dvs E t) := by
  refine ⟨fun pins s σ H Q I h => ?_⟩
  refine wpAny_Call_Name_kw (ld_glob I hg hm ?_ hdb)
  refine PySem.W.callWith_K (h₀ := X.base) I.ok.mod.kin hk (thn (ha.run pos pins s σ H _ I h) fun us s1 ⟨vs, H1, I1, r, q⟩ => ⟨I1.kIn, ?_⟩) he hpl
  exact run_fnG F hr hgd hb hd hx I1 r q
end

/-! ### a call whose exceptions the slots see -/
section
variable {X : Cx} {k : Nat} {f : Addr} {fd : FuncData} {ps : List Str} {sp : Sp} {E : St → XK} {x : Str} {p pos : Pos} {e : Expr} {es : List Expr} {t : TA} {CX : CXT}
theorem run_fnGS {pins : List (Addr × Obj)} {σ : St} {H : Hp} {s : Shared} {Q : VK} {us : List Value} {vs : List V} (F : FnG X.prog X.w X.K X.mg X.base CX k f fd ps sp) (hr : Room k X.A) (hgd : X.A.guards = some []) (hb : Binds X.K fd ps []) (hx : PassesAt CX X σ (E σ))
    (I : Inv X pins σ H s) (r : Vals vs us) (h : sp vs H Q (E σ)) : wpAny (model X.prog X.w) X.A (call (.ref f) us) (EP X pins σ Q) X.xe s := by
  have hl : us.length = ps.length := by rw [← r.length]; exact F.len _ _ _ _ h
  have b := hb s us I.kIn (by rw [List.append_nil]; exact hl)
  rw [List.append_nil] at b
  refine wpAny_call (codeAny_mono (F.run X.A X.stack s H ⟨us, []⟩ us vs Q (E σ) hr hgd I.env0 b r h) fun r s' hq => ?_)
  cases r with
  | error e => exact hx pins H s e s' I hq
  | ok fl =>
    cases fl with
    | ret u => exact I.after hq
    | next => exact False.elim hq
    | brk => exact False.elim hq
    | cont => exact False.elim hq
theorem pe_callGS (F : FnG X.prog X.w X.K X.mg X.base CX k f fd ps sp) (hr : Room k X.A) (hgd : X.A.guards = some []) (hg : Gl X x) (hm : X.mg x = some (.ref f)) (hk : PySem.W.keepIn X.K (.ref f) = true) (hb : Binds X.K fd ps []) (hx : ∀ σ, PassesAt CX X σ (E σ))
    (ha : PA X (e :: es) t) (hdb : (x == ("__debug__" : Str)) = false) (he : starEach (e :: es) X.env = (false, eval e X.env) :: starEach es X.env) (hpl : (backTo pos (starEach es X.env)).any (·.1) = false) :
    PE X (.Call (.Name x p) (e :: es) [] pos) (tCallS sp E t) := by
  refine ⟨fun pins s σ H Q I h => ?_⟩
  refine wpAny_Call_Name_kw (ld_glob I hg hm ?_ hdb)
  refine PySem.W.callWith_K (h₀ := X.base) I.ok.mod.kin hk (thn (ha.run pos pins s σ H _ I h) fun us s1 ⟨vs, H1, I1, r, q⟩ => ⟨I1.kIn, ?_⟩) he hpl
  exact run_fnGS F hr hgd hb (hx σ) I1 r q
end

/-! ### a def by what it does on data -/
abbrev Fv (J : Type) := List D → J → (D → J → Prop) → (Ex → J → Prop) → Prop
class MoF (f : Fv J) : Prop where
  mo : ∀ {ds : List D} {j : J} {P P' : D → J → Prop} {E E' : Ex → J → Prop}, f ds j P E → (∀ d j', P d j' → P' d j') → (∀ e j', E e j' → E' e j') → f ds j P' E'
structure FPost (S : Js J) (F : Hp) (A : Addr → Prop) (H : Hp) (F' : Hp) (A' : Addr → Prop) (H' : Hp) (j' : J) : Prop where
  sub : Same F F'
  fh : Same F' H'
  fa : ∀ b o, F' b = some o → ¬ A' b
  jr : S.rep j' F' A' H'
  keep : ∀ b o, H b = some o → ¬ A b → H' b = some o
  ff : ∀ b o, F' b = some o → F b = some o ∨ H b = none
  af : ∀ b, A' b → A b ∨ H b = none
  dm : ∀ b, H' b = none → H b = none
  sm : ∃ o u, H' sysModules = some (.frz o u)
def spF (S : Js J) (n : Nat) (φ : Fv J) : Sp := fun vs H Q E => ∃ F A j ds P Ep, Same F H ∧ (∀ b o, F b = some o → ¬ A b) ∧ S.rep j F A H ∧ (∃ o u, H sysModules = some (.frz o u)) ∧ RpL S F ds vs ∧ ds.length = n ∧ φ ds j P Ep ∧
  (∀ d j' F' A' H' v, P d j' → FPost S F A H F' A' H' j' → Rp S F' d v → Q v H') ∧ (∀ e j' F' A' H' cls dx, Ep e j' → FPost S F A H F' A' H' j' → ExR S F' e cls dx → E cls dx H')
def un2 (F G : Hp) : Hp := fun b => match F b with | some o => some o | none => G b
theorem un2_l {F G : Hp} : Same F (un2 F G) := fun b o e => by unfold un2; rw [e]
theorem un2_cases {F G : Hp} {b : Addr} {o : HO} (h : un2 F G b = some o) : F b = some o ∨ (F b = none ∧ G b = some o) := by
  unfold un2 at h
  split at h
  · cases h; exact .inl (by assumption)
  · exact .inr ⟨by assumption, h⟩
section
variable {S : Js J} {B : Bs} {g : Gh} {H H' F' : Hp} {A' : Addr → Prop} {j j' : J}
theorem post_base (ok : OkB S B g H j) {F : Hp} (p : FPost S F g.A H F' A' H' j') : (∀ b o, g.G b = some o → H' b = some o ∧ ¬ A' b) ∧ (∀ b, A' b → B.A0 b ∨ B.H0 b = none) ∧ (∀ b o, B.H0 b = some o → ¬ B.A0 b → H' b = some o) ∧ (∀ b, H' b = none → B.H0 b = none) := by
  refine ⟨fun b o e => ⟨p.keep b o (ok.gh b o e) (ok.ga b o e), fun z => ?_⟩, fun b z => ?_, fun b o e n => ?_, fun b e => ok.h1 b (p.dm b e)⟩
  · rcases p.af b z with z | z
    · exact ok.ga b o e z
    · rw [ok.gh b o e] at z; cases z
  · rcases p.af b z with z | z
    · exact ok.a0 b z
    · exact .inr (ok.h1 b z)
  · refine p.keep b o (ok.h0 b o e n) fun z => ?_
    rcases ok.a0 b z with z | z
    · exact n z
    · rw [e] at z; cases z
/-- behind a call with frozen arguments -/
theorem post_clean (ok : OkB S B g H j) (p : FPost S g.F g.A H F' A' H' j') : Le g ⟨F', un2 F' g.G, A'⟩ ∧ OkB S B ⟨F', un2 F' g.G, A'⟩ H' j' := by
  obtain ⟨b1, b2, b3, b4⟩ := post_base ok p
  have gg : Same g.G (un2 F' g.G) := fun b o e => by
    unfold un2
    split
    · rename_i o' h
      rcases p.ff b o' h with z | z
      · rw [ok.fg b o' z] at e; exact e
      · rw [ok.gh b o e] at z; cases z
    · exact e
  refine ⟨⟨p.sub, gg, fun b o e => ?_⟩, ⟨un2_l, fun b o e => ?_, fun b o e => ?_, p.jr, ok.f0.trans p.sub, fun b o e => ?_, b2, b3, b4, p.sm⟩⟩
  · rcases p.ff b o e with z | z
    · exact .inl z
    · exact .inr (ok.gh.free z)
  · rcases un2_cases e with e | ⟨_, e⟩
    · exact p.fh b o e
    · exact (b1 b o e).1
  · rcases un2_cases e with e | ⟨_, e⟩
    · exact p.fa b o e
    · exact (b1 b o e).2
  · rcases un2_cases e with e | ⟨_, e⟩
    · rcases p.ff b o e with z | z
      · exact ok.g0 b o (ok.fg b o z)
      · exact .inr (ok.h1 b z)
    · exact ok.g0 b o e
end
/-- a call with frozen arguments: what is raised goes on -/
def eCall (φ : Fv J) (fa : Av J) (m : Sd) (j : J) (P : D → J → Prop) (E : XP J) : Prop := fa m j (fun xs j1 => φ xs j1 P (fun e j' => E e m j')) E
/-- with arguments that are seen: nothing is raised -/
def eCallM (φ : Fv J) (fa : Av J) (m : Sd) (j : J) (P : D → J → Prop) (E : XP J) : Prop := fa m j (fun xs j1 => φ xs j1 P (fun _ _ => False)) E
instance {φ : Fv J} {fa : Av J} [hf : MoF φ] [ha : MoA fa] : MoE (eCall φ fa) := ⟨fun h q x => ha.mo h (fun _ _ p => hf.mo p q fun _ _ => x _ _ _) x⟩
instance {φ : Fv J} {fa : Av J} [hf : MoF φ] [ha : MoA fa] : MoE (eCallM φ fa) := ⟨fun h q x => ha.mo h (fun _ _ p => hf.mo p q fun _ _ z => z) x⟩
section
variable {S : Js J} {B : Bs} {M : Nat → Bool} {W : WX} {X : Cx} {e a b c : Expr} {es : List Expr} {pos p : Pos} {f fa fb fc : Ev J} {fr : Av J} {x : Str} {φ : Fv J} {k n : Nat} {fn : Addr} {fd : FuncData} {ps : List Str}
theorem tCall_rd (hφ : ∀ ds j P E, φ ds j P E → ds.length = n) {R : St} {H : Hp} {Q : VK} (h : rdE S B M W .clean (eCall φ fr) R H Q) : tCallS (spF S n φ) (WE W) (rdA S B M W true fr) R H Q := by
  obtain ⟨g, m, j, P, E, ok, hf, q, xo⟩ := h
  refine ⟨g, m, j, _, E, ok, hf, fun xs j1 g1 vs H1 p1 l1 ok1 w1 => ?_, xo⟩
  refine ⟨g1.F, g1.A, j1, xs, P, _, ok1.b.fg.trans ok1.b.gh, fun b o e => ok1.b.ga b o (ok1.b.fg b o e), ok1.b.jr, ok1.b.sm, w1, hφ _ _ _ _ p1, p1, fun d j' F' A' H' v pd pp rv => ?_, fun e j' F' A' H' cls dx pe pp rv => ?_⟩
  · obtain ⟨l2, ok2⟩ := post_clean ok1.b pp
    exact q d j' _ v H' pd (l1.trans l2) ⟨ok2, ok1.s.le l2⟩ rv
  · obtain ⟨l2, ok2⟩ := post_clean ok1.b pp
    exact xo e m j' _ R H' cls dx pe (l1.trans l2).f ⟨ok2, ok1.s.le l2⟩ rv
theorem e_call (F : FnG X.prog X.w X.K X.mg X.base (L2.CX X.prog X.w) k fn fd ps (spF S n φ)) (tk : Takes X W) (hr : Room k X.A) (hgd : X.A.guards = some []) (hg : Gl X x) (hm : X.mg x = some (.ref fn)) (hk : PySem.W.keepIn X.K (.ref fn) = true) (hb : Binds X.K fd ps [])
    (hφ : ∀ ds j P E, φ ds j P E → ds.length = n) (ha : PA X (e :: es) (rdA S B M W true fr)) (hdb : (x == ("__debug__" : Str)) = false) (he : starEach (e :: es) X.env = (false, eval e X.env) :: starEach es X.env) (hpl : (backTo pos (starEach es X.env)).any (·.1) = false) :
    PE X (.Call (.Name x p) (e :: es) [] pos) (rdE S B M W .clean (eCall φ fr)) := PE.imp (pe_callGS F hr hgd hg hm hk hb (passAt tk) ha hdb he hpl) fun _ _ _ h => tCall_rd hφ h
end

/-! ### statements -/
inductive Fl | next | brk | cnt | ret (d : D)
abbrev Sv (J : Type) := Sd → J → (Fl → Sd → J → Prop) → XP J → Prop
class MoS (f : Sv J) : Prop where
  mo : ∀ {m : Sd} {j : J} {P P' : Fl → Sd → J → Prop} {E E' : XP J}, f m j P E → (∀ l m' j', P l m' j' → P' l m' j') → (∀ e m' j', E e m' j' → E' e m' j') → f m j P' E'
section
variable (S : Js J) (B : Bs) (M : Nat → Bool)
def EndS (g : Gh) (E : Ends) : Fl → Sd → J → Prop
  | .next, m', j' => ∀ g' r' H', Same g.F g'.F → Ok S B g' M r' H' m' j' → E.nx r' H'
  | .brk, m', j' => ∀ g' r' H', Same g.F g'.F → Ok S B g' M r' H' m' j' → E.bk r' H'
  | .cnt, m', j' => ∀ g' r' H', Same g.F g'.F → Ok S B g' M r' H' m' j' → E.ct r' H'
  | .ret d, _, j' => ∀ g' H' v, OkB S B g' H' j' → Rp S g'.G d v → E.rt v H'
def rdS (W : WX) (f : Sv J) : TS := fun En r H => ∃ g m j P E, Ok S B g M r H m j ∧ f m j P E ∧ (∀ fl m' j', P fl m' j' → EndS S B M g En fl m' j') ∧ XOut S B M W g E
end
/-! combinators -/
def sNil (m : Sd) (j : J) (P : Fl → Sd → J → Prop) (E : XP J) : Prop := P .next m j
/-- what follows a statement -/
def thenS (f2 : Sv J) (P : Fl → Sd → J → Prop) (E : XP J) : Fl → Sd → J → Prop
  | .next, m, j => f2 m j P E
  | .brk, m, j => P .brk m j
  | .cnt, m, j => P .cnt m j
  | .ret d, m, j => P (.ret d) m j
def sSeq (f1 f2 : Sv J) (m : Sd) (j : J) (P : Fl → Sd → J → Prop) (E : XP J) : Prop := f1 m j (thenS f2 P E) E
def sExpr (fe : Ev J) (m : Sd) (j : J) (P : Fl → Sd → J → Prop) (E : XP J) : Prop := fe m j (fun _ j1 => P .next m j1) E
def sBrk (m : Sd) (j : J) (P : Fl → Sd → J → Prop) (E : XP J) : Prop := P .brk m j
def sCnt (m : Sd) (j : J) (P : Fl → Sd → J → Prop) (E : XP J) : Prop := P .cnt m j
def sNever (m : Sd) (j : J) (P : Fl → Sd → J → Prop) (E : XP J) : Prop := False
def sRet (fe : Ev J) (m : Sd) (j : J) (P : Fl → Sd → J → Prop) (E : XP J) : Prop := fe m j (fun d j1 => P (.ret d) m j1) E
def sRetN (m : Sd) (j : J) (P : Fl → Sd → J → Prop) (E : XP J) : Prop := P (.ret .non) m j
def sIf (tc : Tv J) (f1 f2 : Sv J) (m : Sd) (j : J) (P : Fl → Sd → J → Prop) (E : XP J) : Prop := tc m j (fun b j1 => if b = true then f1 m j1 P E else f2 m j1 P E) E
def sSet (i : Nat) (fe : Ev J) (m : Sd) (j : J) (P : Fl → Sd → J → Prop) (E : XP J) : Prop := fe m j (fun d j1 => P .next (m.set i (some d)) j1) E
def sAsg (γ : Gv) (fe : Ev J) (m : Sd) (j : J) (P : Fl → Sd → J → Prop) (E : XP J) : Prop := fe m j (fun d j1 => ∃ m1, γ d m = some m1 ∧ P .next m1 j1) E
/-- x += e, x -= e (ints) -/
def sAug (φ : D → D → Option D) (i : Nat) (fe : Ev J) (m : Sd) (j : J) (P : Fl → Sd → J → Prop) (E : XP J) : Prop := ∃ x, m[i]? = some (some x) ∧ fe m j (fun y j1 => ∃ z, φ x y = some z ∧ P .next (m.set i (some z)) j1) E
def addI : D → D → Option D
  | .int i, .int k => some (.int (i + k))
  | _, _ => none
def subI : D → D → Option D
  | .int i, .int k => some (.int (i - k))
  | _, _ => none
/-- what follows a turn of a loop -/
def turnS (N : Sd → J → Prop) (P : Fl → Sd → J → Prop) : Fl → Sd → J → Prop
  | .next, m, j => N m j
  | .cnt, m, j => N m j
  | .brk, m, j => P .next m j
  | .ret d, m, j => P (.ret d) m j
def whW (tc : Tv J) (fb : Sv J) : Nat → Sd → J → (Fl → Sd → J → Prop) → XP J → Prop
  | 0, _, _, _, _ => False
  | n + 1, m, j, P, E => tc m j (fun b j1 => if b = true then fb m j1 (turnS (fun m1 j2 => whW tc fb n m1 j2 P E) P) E else P .next m j1) E
def sWhile (tc : Tv J) (fb : Sv J) (m : Sd) (j : J) (P : Fl → Sd → J → Prop) (E : XP J) : Prop := ∃ n, whW tc fb n m j P E
def forW (γ : Gv) (fb : Sv J) : List D → Sd → J → (Fl → Sd → J → Prop) → XP J → Prop
  | [], m, j, P, E => P .next m j
  | d :: ds, m, j, P, E => ∃ m1, γ d m = some m1 ∧ fb m1 j (turnS (fun m2 j2 => forW γ fb ds m2 j2 P E) P) E
def sFor (fi : Iv J) (γ : Gv) (fb : Sv J) (m : Sd) (j : J) (P : Fl → Sd → J → Prop) (E : XP J) : Prop := fi m j (fun ds j1 => forW γ fb ds m j1 P E) E
section
variable {f f1 f2 : Sv J} {fe : Ev J} {tc : Tv J} {γ : Gv} {φ : D → D → Option D} {i : Nat} {fi : Iv J}
theorem thenS_mo {P P' : Fl → Sd → J → Prop} {E E' : XP J} [h2 : MoS f2] (q : ∀ l m' j', P l m' j' → P' l m' j') (x : ∀ e m' j', E e m' j' → E' e m' j') : ∀ l m j, thenS f2 P E l m j → thenS f2 P' E' l m j
  | .next, _, _, h => h2.mo h q x
  | .brk, _, _, h => q _ _ _ h
  | .cnt, _, _, h => q _ _ _ h
  | .ret _, _, _, h => q _ _ _ h
theorem turnS_mo {N N' : Sd → J → Prop} {P P' : Fl → Sd → J → Prop} (n : ∀ m j, N m j → N' m j) (q : ∀ l m' j', P l m' j' → P' l m' j') : ∀ l m j, turnS N P l m j → turnS N' P' l m j
  | .next, _, _, h => n _ _ h
  | .brk, _, _, h => q _ _ _ h
  | .cnt, _, _, h => n _ _ h
  | .ret _, _, _, h => q _ _ _ h
instance : MoS (sNil (J := J)) := ⟨fun h q x => q _ _ _ h⟩
instance [h1 : MoS f1] [h2 : MoS f2] : MoS (sSeq f1 f2) := ⟨fun h q x => h1.mo h (thenS_mo q x) x⟩
instance [h1 : MoE fe] : MoS (sExpr fe) := ⟨fun h q x => h1.mo h (fun _ _ p => q _ _ _ p) x⟩
instance : MoS (sBrk (J := J)) := ⟨fun h q x => q _ _ _ h⟩
instance : MoS (sCnt (J := J)) := ⟨fun h q x => q _ _ _ h⟩
instance : MoS (sNever (J := J)) := ⟨fun h q x => h⟩
instance [h1 : MoE fe] : MoS (sRet fe) := ⟨fun h q x => h1.mo h (fun _ _ p => q _ _ _ p) x⟩
instance : MoS (sRetN (J := J)) := ⟨fun h q x => q _ _ _ h⟩
instance [hc : MoT tc] [h1 : MoS f1] [h2 : MoS f2] : MoS (sIf tc f1 f2) := ⟨fun h q x => hc.mo h (fun _ _ p => ite_mono p (fun p => h1.mo p q x) fun p => h2.mo p q x) x⟩
instance [h1 : MoE fe] : MoS (sSet i fe) := ⟨fun h q x => h1.mo h (fun _ _ p => q _ _ _ p) x⟩
instance [h1 : MoE fe] : MoS (sAsg γ fe) := ⟨fun h q x => h1.mo h (fun _ _ ⟨m, e, p⟩ => ⟨m, e, q _ _ _ p⟩) x⟩
instance [h1 : MoE fe] : MoS (sAug φ i fe) := ⟨fun ⟨y, e, h⟩ q x => ⟨y, e, h1.mo h (fun _ _ ⟨m, e, p⟩ => ⟨m, e, q _ _ _ p⟩) x⟩⟩
theorem whW_mo {fb : Sv J} [hc : MoT tc] [hb : MoS fb] : ∀ {n k : Nat} {m : Sd} {j : J} {P P' : Fl → Sd → J → Prop} {E E' : XP J}, whW tc fb n m j P E → n ≤ k → (∀ l m' j', P l m' j' → P' l m' j') → (∀ e m' j', E e m' j' → E' e m' j') → whW tc fb k m j P' E'
  | 0, _, _, _, _, _, _, _, h, _, _, _ => h.elim
  | n + 1, 0, _, _, _, _, _, _, _, l, _, _ => absurd l (Nat.not_succ_le_zero _)
  | n + 1, k + 1, _, _, _, _, _, _, h, l, q, x => hc.mo h (fun _ _ p => ite_mono p (fun p => hb.mo p (turnS_mo (fun _ _ p => whW_mo p (Nat.le_of_succ_le_succ l) q x) q) x) (q _ _ _)) x
instance {fb : Sv J} [hc : MoT tc] [hb : MoS fb] : MoS (sWhile tc fb) := ⟨fun ⟨n, h⟩ q x => ⟨n, whW_mo h (Nat.le_refl _) q x⟩⟩
theorem forW_mo {fb : Sv J} [hb : MoS fb] : ∀ {ds : List D} {m : Sd} {j : J} {P P' : Fl → Sd → J → Prop} {E E' : XP J}, forW γ fb ds m j P E → (∀ l m' j', P l m' j' → P' l m' j') → (∀ e m' j', E e m' j' → E' e m' j') → forW γ fb ds m j P' E'
  | [], _, _, _, _, _, _, h, q, _ => q _ _ _ h
  | _ :: _, _, _, _, _, _, _, ⟨m1, e, h⟩, q, x => ⟨m1, e, hb.mo h (turnS_mo (fun _ _ p => forW_mo p q x) q) x⟩
instance {fb : Sv J} [hi : MoA fi] [hb : MoS fb] : MoS (sFor fi γ fb) := ⟨fun h q x => hi.mo h (fun _ _ p => forW_mo p q x) x⟩
end
section
variable {S : Js J} {B : Bs} {M : Nat → Bool} {W : WX} {X : Cx} {e a b c tg : Expr} {st : Stmt} {rest body body' : List Stmt} {pos p : Pos} {f fa fb fc fe : Ev J} {fs fs' : Sv J} {tc : Tv J}
theorem EndS.mono {g g' : Gh} {E : Ends} : ∀ {fl : Fl} {m : Sd} {j : J}, EndS S B M g E fl m j → Same g.F g'.F → EndS S B M g' E fl m j
  | .next, _, _, h, l => fun g2 r H l2 ok => h g2 r H (l.trans l2) ok
  | .brk, _, _, h, l => fun g2 r H l2 ok => h g2 r H (l.trans l2) ok
  | .cnt, _, _, h, l => fun g2 r H l2 ok => h g2 r H (l.trans l2) ok
  | .ret d, _, _, h, l => h
theorem s_nil : PSs X [] (rdS S B M W sNil) := PSs.imp pss_nil fun E r H ⟨g, m, j, P, Ep, ok, hf, q, xo⟩ => q _ _ _ hf g r H (Same.refl _) ok
theorem s_cons (h1 : PS X st (rdS S B M W fs)) (h2 : PSs X rest (rdS S B M W fs')) : PSs X (st :: rest) (rdS S B M W (sSeq fs fs')) :=
  PSs.imp (pss_cons h1 h2) fun E r H ⟨g, m, j, P, Ep, ok, hf, q, xo⟩ => by
    refine ⟨g, m, j, _, Ep, ok, hf, fun fl m' j' p => ?_, xo⟩
    cases fl with
    | next => exact fun g' r' H' l ok' => ⟨g', m', j', P, Ep, ok', p, fun fl2 m2 j2 p2 => (q _ _ _ p2).mono l, xo.le l⟩
    | brk => exact q _ _ _ p
    | cnt => exact q _ _ _ p
    | ret d => exact q _ _ _ p
theorem s_break : PS X (.Break pos) (rdS S B M W sBrk) := PS.imp ps_break fun E r H ⟨g, m, j, P, Ep, ok, hf, q, xo⟩ => q _ _ _ hf g r H (Same.refl _) ok
theorem s_ret {k : Cl} (he : PE X e (rdE S B M W k fe)) : PS X (.Return (some e) pos) (rdS S B M W (sRet fe)) :=
  PS.imp (ps_ret he) fun E r H ⟨g, m, j, P, Ep, ok, hf, q, xo⟩ => ⟨g, m, j, _, Ep, ok, hf, fun d j1 g' v H' p l ok' w => q _ _ _ p g' H' v ok'.b (w.mix ok'.b.fg), xo⟩
theorem s_if (hc : PT X c (rdT S B M W tc)) (ha : PSs X body (rdS S B M W fs)) (hb : PSs X body' (rdS S B M W fs')) : PS X (.If c body body' pos) (rdS S B M W (sIf tc fs fs')) :=
  PS.imp (ps_if hc ha hb) fun E r H ⟨g, m, j, P, Ep, ok, hf, q, xo⟩ => ⟨g, m, j, _, Ep, ok, hf, fun b j1 g1 H1 p l1 ok1 => ite_mono p (fun p => ⟨g1, m, _, P, Ep, ok1, p, fun fl m' j' p => (q _ _ _ p).mono l1.f, xo.le l1.f⟩) fun p => ⟨g1, m, _, P, Ep, ok1, p, fun fl m' j' p => (q _ _ _ p).mono l1.f, xo.le l1.f⟩, xo⟩
/-! assignments -/
theorem sSet_rd {i : Nat} {t : TE} (hM : M i = false) (ht : ∀ r H Q, rdE S B M W .clean fe r H Q → t r H Q) {E : Ends} {r : St} {H : Hp} (h : rdS S B M W (sSet i fe) E r H) : tAsg t (gName i) E r H := by
  obtain ⟨g, m, j, P, Ep, ok, hf, q, xo⟩ := h
  exact ht _ _ _ ⟨g, m, j, _, Ep, ok, hf, fun d j1 g' v H' p l ok' w => q _ _ _ p g' _ H' l.f ⟨ok'.b, ok'.s.set_fr hM w⟩, xo⟩
theorem sSetO_rd {i : Nat} {t : TE} (hM : M i = true) (ht : ∀ r H Q, rdE S B M W .fresh fe r H Q → t r H Q) {E : Ends} {r : St} {H : Hp} (h : rdS S B M W (sSet i fe) E r H) : tAsg t (gName i) E r H := by
  obtain ⟨g, m, j, P, Ep, ok, hf, q, xo⟩ := h
  refine ht _ _ _ ⟨g, m, j, _, Ep, ok, hf, fun d j1 g' v H' p l ok' w => ?_, xo⟩
  obtain ⟨a, rfl, n, o⟩ := w
  refine q _ _ _ p g' _ H' l.f ⟨ok'.b, ok'.s.set_ow hM o fun k e hk hMk he z => ?_⟩
  exact (ok.s.apart_fresh (i := i) n) k e hk hMk he z
theorem s_set {i : Nat} {x : Str} {pos' : Pos} (hM : M i = false) (hN : X.N.Nodup) (hi : X.N[i]? = some x) (hx : Loc X.env.scope x) (he : PE X e (rdE S B M W .clean fe)) (hs : swapsWith e (some (.Name x pos')) pos.line X.env = pure false) (hf : X.fn x = true ∨ X.env.scope.names.lookup x = some .local) :
    PS X (.Assign [.Name x pos'] e pos) (rdS S B M W (sSet i fe)) := PS.imp (ps_set hN hi hx he hs hf) fun E r H h => sSet_rd hM (fun _ _ _ z => z) h
theorem s_setO {i : Nat} {x : Str} {pos' : Pos} (hM : M i = true) (hN : X.N.Nodup) (hi : X.N[i]? = some x) (hx : Loc X.env.scope x) (he : PE X e (rdE S B M W .fresh fe)) (hs : swapsWith e (some (.Name x pos')) pos.line X.env = pure false) (hf : X.fn x = true ∨ X.env.scope.names.lookup x = some .local) :
    PS X (.Assign [.Name x pos'] e pos) (rdS S B M W (sSet i fe)) := PS.imp (ps_set hN hi hx he hs hf) fun E r H h => sSetO_rd hM (fun _ _ _ z => z) h
theorem s_asg {γ : Gv} {ks : List Nat} (he : PE X e (rdE S B M W .clean fe)) (hg : PG X tg (rdG S B M false ks γ)) (hs : swapsWithSole [tg] e pos.line X.env = pure false) (hw : swappedStores [tg] e X.env = pure none)
    (h1 : (assignEach [tg] X.env).map (·.2) = [assign tg X.env]) : PS X (.Assign [tg] e pos) (rdS S B M W (sAsg γ fe)) :=
  PS.imp (ps_asg he hg hs hw h1) fun E r H ⟨g, m, j, P, Ep, ok, hf, q, xo⟩ =>
    ⟨g, m, j, _, Ep, ok, hf, fun d j1 g' v H' ⟨m1, h2, p⟩ l ok' w => ⟨g', m, _, _, _, ok', .inl w, h2, fun r' ok'' _ _ => q _ _ _ p g' r' H' l.f ok''⟩, xo⟩
theorem s_aug {op : Operator} {h : Int → Int → Int} {φ : D → D → Option D} {i : Nat} {x : Str} {pos' : Pos} (hφ : ∀ d e z, φ d e = some z → ∃ a b, d = .int a ∧ e = .int b ∧ z = .int (h a b)) (ho : PIp X op (ipI h)) (hM : M i = false) (hN : X.N.Nodup) (hi : X.N[i]? = some x) (hx : Loc X.env.scope x)
    (he : PE X e (rdE S B M W .mix fe)) (hf : X.fn x = true ∨ X.env.scope.names.lookup x = some .local) : PS X (.AugAssign (.Name x pos') op e pos) (rdS S B M W (sAug φ i fe)) :=
  PS.imp (ps_aug hN hi hx he ho hf) fun E r H ⟨g, m, j, P, Ep, ok, ⟨d0, h0, hf⟩, q, xo⟩ => by
    obtain ⟨v0, e1, e2⟩ := ok.s.fr i _ h0 hM
    refine ⟨v0, e1, g, m, j, _, Ep, ok, hf, fun y j1 g' v H' ⟨z, h2, p⟩ l ok' w => ?_, xo⟩
    obtain ⟨a, b, rfl, rfl, rfl⟩ := hφ _ _ _ h2
    exact ⟨a, b, int_of e2, int_of w, q _ _ _ p g' _ H' l.f ⟨ok'.b, ok'.s.set_fr hM (.int _)⟩⟩
end

/-! ### while, for -/
section
variable {S : Js J} {B : Bs} {M : Nat → Bool} {W : WX} {X : Cx} {c tg iter : Expr} {body : List Stmt} {pos : Pos} {tc : Tv J} {fb : Sv J} {fi : Iv J} {γ : Gv} {ks : List Nat} {w : Bool}
theorem s_while (hp : PassesOwn (model X.prog X.w) X.A X.env X.xe) (hc : PT X c (rdT S B M W tc)) (hb : PSs X body (rdS S B M W fb)) : PS X (.While c body [] pos) (rdS S B M W (sWhile tc fb)) :=
  PS.imp (ps_while hp hc hb) fun E r H ⟨g, m, j, P, Ep, ok, ⟨n, hn⟩, q, xo⟩ => by
    refine ⟨fun k r H => ∃ g1 m1 j1, Same g.F g1.F ∧ Ok S B g1 M r H m1 j1 ∧ whW tc fb k m1 j1 P Ep, ⟨n, g, m, j, Same.refl _, ok, hn⟩, ?_⟩
    rintro k r1 H1 ⟨g1, m1, j1, l1, ok1, hk⟩
    cases k with
    | zero => exact hk.elim
    | succ k =>
      refine ⟨g1, m1, j1, _, Ep, ok1, hk, fun b j2 g2 H2 p l2 ok2 => ite_mono p (fun p => ?_) (fun p => q _ _ _ p g2 _ H2 (l1.trans l2.f) ok2), xo.le l1⟩
      refine ⟨fun r3 H3 => ∃ g3 m3 j3, Same g.F g3.F ∧ Ok S B g3 M r3 H3 m3 j3 ∧ whW tc fb k m3 j3 P Ep, fun r3 H3 h3 => ⟨k, Nat.lt_succ_self _, h3⟩, ?_⟩
      refine ⟨g2, m1, _, _, Ep, ok2, p, fun fl m3 j3 p => ?_, xo.le (l1.trans l2.f)⟩
      cases fl with
      | next => exact fun g4 r4 H4 l4 ok4 => ⟨g4, m3, j3, (l1.trans l2.f).trans l4, ok4, p⟩
      | cnt => exact fun g4 r4 H4 l4 ok4 => ⟨g4, m3, j3, (l1.trans l2.f).trans l4, ok4, p⟩
      | brk => exact fun g4 r4 H4 l4 ok4 => q _ _ _ p g4 r4 H4 ((l1.trans l2.f).trans l4) ok4
      | ret d => exact q _ _ _ p
theorem s_for (hp : PassesOwn (model X.prog X.w) X.A X.env X.xe) (hc : X.calm = true) (hi : PI X tg iter (rdI S B M W true w fi)) (hg : PG X tg (rdG S B M w ks γ)) (hb : PSs X body (rdS S B M W fb)) (hs : ∀ x, foldedSetIterable iter X.env x = pure x) :
    PS X (.For tg iter body [] pos) (rdS S B M W (sFor fi γ fb)) :=
  PS.imp (ps_for hp hc hi hg hb hs) fun E r H ⟨g, m, j, P, Ep, ok, hf, q, xo⟩ => by
    refine ⟨g, m, j, _, Ep, ok, hf, fun ds j1 g1 H1 Jt hf l1 ok1 wk => ?_, xo⟩
    refine for_it wk (fun i r H => ∃ g2 m2 j2, Same g1.F g2.F ∧ Ok S B g2 M r H m2 j2 ∧ forW γ fb (ds.drop i) m2 j2 P Ep) ⟨g1, m, j1, Same.refl _, ok1, by rw [List.drop_zero]; exact hf⟩ ?_ ?_ ?_
    · rintro i r2 H2 hi ⟨g2, m2, j2, l2, ok2, h2⟩
      exact l2.trans (ok2.b.fg.trans ok2.b.gh)
    · rintro i y r2 H2 H2' hi ⟨g2, m2, j2, l2, ok2, h2⟩ ⟨dd, hdd, yy⟩
      have hdrop : ds.drop i = dd :: ds.drop (i + 1) := by
        obtain ⟨hlt, he⟩ := List.getElem?_eq_some_iff.mp hdd
        rw [List.drop_eq_getElem_cons hlt, he]
      rw [hdrop] at h2
      obtain ⟨m3, hm3, h2⟩ := h2
      have item : ∃ g3, Le g2 g3 ∧ Ok S B g3 M r2 H2' m2 j2 ∧ RpX S g3.F w dd y := by
        rcases yy with ⟨rfl, rp⟩ | ⟨hw, T, vs, es, rfl, hT, rfl, rfl, rl⟩ | ⟨T, o, vs, es, rfl, hT, hdo, rfl, rfl, rl⟩
        · exact ⟨g2, Le.refl _, ok2, .inl (rp.mono l2)⟩
        · obtain ⟨t1, t2, t3, t4⟩ := ok2.b.hn hT
          exact ⟨_, Le.frz ok2.b.fg t2, ⟨ok2.b.frz _ hT, ok2.s.le (Le.frz ok2.b.fg t2)⟩, .inr ⟨hw, T, vs, es, rfl, upd_same, rfl, (rl.mono l2).mono (same_new t1)⟩⟩
        · obtain ⟨t1, t2, t3, t4⟩ := ok2.b.hn hT
          exact ⟨_, Le.frz ok2.b.fg t2, ⟨ok2.b.frz _ hT, ok2.s.le (Le.frz ok2.b.fg t2)⟩, .inl (.tup (.inl ⟨o, upd_same, hdo⟩) ((rl.mono l2).mono (same_new t1)))⟩
      obtain ⟨g3, l3, ok3, rp3⟩ := item
      refine ⟨g3, m2, j2, dd, m3, ok3, rp3, hm3, fun r4 ok4 len4 k4 => ?_⟩
      have l23 := l2.trans l3.f
      refine ⟨g3, m3, j2, _, Ep, ok4, h2, fun fl m5 j5 p => ?_, xo.le (l1.f.trans l23)⟩
      cases fl with
      | next => exact fun g6 r6 H6 l6 ok6 => ⟨g6, m5, j5, l23.trans l6, ok6, p⟩
      | cnt => exact fun g6 r6 H6 l6 ok6 => ⟨g6, m5, j5, l23.trans l6, ok6, p⟩
      | brk => exact fun g6 r6 H6 l6 ok6 => q _ _ _ p g6 r6 H6 ((l1.f.trans l23).trans l6) ok6
      | ret d => exact q _ _ _ p
    · rintro r2 H2 ⟨g2, m2, j2, l2, ok2, h2⟩
      rw [List.drop_length] at h2
      exact q _ _ _ h2 g2 r2 H2 (l1.f.trans l2) ok2
end
end Mp

/-! Mp8: stores into owned lists; two and three names at once; t.index(x); defs. -/
namespace Mp
open PySem PySem.Spec L2
open PyProof.Rows hiding St
variable {J : Type}

/-- the owned thing at a is written -/
def Gh.put (g : Gh) (a : Addr) (o : HO) : Gh := ⟨g.F, upd g.G a o, g.A⟩
section
variable {S : Js J} {B : Bs} {M : Nat → Bool} {X : Cx} {g : Gh} {H : Hp} {j : J} {a : Addr} {r : St} {m : Sd} {i : Nat} {d d' : D}
theorem OkB.own0 (k : OkB S B g H j) {o : HO} (hF : g.F a = none) (hG : g.G a = some o) : B.H0 a = none := by
  rcases k.g0 a o hG with z | z
  · have := k.f0 a o z
    rw [hF] at this; cases this
  · exact z
theorem OkB.put (k : OkB S B g H j) {o o' : HO} (hF : g.F a = none) (hG : g.G a = some o') (ho : ∀ x y, o' ≠ .frz x y) : OkB S B (g.put a o) (upd H a o) j := by
  have h0 := k.own0 hF hG
  refine ⟨fun b u e => ?_, same_upd k.gh, fun b u e => ?_, S.frame k.jr (Same.refl _) fun b z => upd_ne fun q => k.ga a o' hG (q ▸ z), k.f0, fun b u e => ?_, k.a0, fun b u e n => ?_, fun b e => ?_, ?_⟩
  · show upd g.G a o b = some u
    rw [upd_ne (ne_of_none e hF)]; exact k.fg b u e
  · have e' : upd g.G a o b = some u := e
    by_cases hb : b = a
    · subst hb; exact k.ga b o' hG
    · rw [upd_ne hb] at e'; exact k.ga b u e'
  · have e' : upd g.G a o b = some u := e
    by_cases hb : b = a
    · subst hb; exact .inr h0
    · rw [upd_ne hb] at e'; exact k.g0 b u e'
  · rw [upd_ne (ne_of_none e h0)]; exact k.h0 b u e n
  · by_cases hb : b = a
    · subst hb; rw [upd_same] at e; cases e
    · rw [upd_ne hb] at e; exact k.h1 b e
  · obtain ⟨o1, u1, e1⟩ := k.sm
    refine ⟨o1, u1, ?_⟩
    rw [upd_ne fun z => ho o1 u1 (by have := k.gh _ _ hG; rw [← z, e1] at this; exact (Option.some.inj this).symm)]
    exact e1
theorem Own.putO {b : Addr} {o : HO} (h : Own S g d b) (hb : b ≠ a) : Own S (g.put a o) d b := by
  obtain ⟨n, ⟨ds, vs, rfl, e, t⟩ | ⟨kds, kvs, rfl, e, l, t⟩ | ⟨kds, kvs, rfl, e, l, t⟩⟩ := h
  · exact ⟨n, .inl ⟨ds, vs, rfl, by show upd g.G a o b = _; rw [upd_ne hb]; exact e, t⟩⟩
  · exact ⟨n, .inr (.inl ⟨kds, kvs, rfl, by show upd g.G a o b = _; rw [upd_ne hb]; exact e, l, t⟩)⟩
  · exact ⟨n, .inr (.inr ⟨kds, kvs, rfl, by show upd g.G a o b = _; rw [upd_ne hb]; exact e, l, t⟩)⟩
theorem Slots.put (h : Slots S g M r m) (hM : M i = true) (hm : m[i]? = some (some d)) (hr : r[i]? = some (some (.ref a))) {o : HO} (ow : Own S (g.put a o) d' a) : Slots S (g.put a o) M r (m.set i (some d')) := by
  have hi : i < m.length := (List.getElem?_eq_some_iff.mp hm).1
  have get : ∀ {k : Nat} {e : D}, (m.set i (some d'))[k]? = some (some e) → (k = i ∧ e = d') ∨ (k ≠ i ∧ m[k]? = some (some e)) := fun {k e} q => by
    by_cases hk : k = i
    · subst hk
      rw [List.getElem?_set_self hi] at q
      cases q
      exact .inl ⟨rfl, rfl⟩
    · rw [List.getElem?_set_ne (Ne.symm hk)] at q
      exact .inr ⟨hk, q⟩
  have old : ∀ {k : Nat} {e : D}, (m.set i (some d'))[k]? = some (some e) → ∃ e', m[k]? = some (some e') := fun {k e} q => by
    rcases get q with ⟨rfl, rfl⟩ | ⟨_, q⟩
    · exact ⟨_, hm⟩
    · exact ⟨_, q⟩
  refine ⟨by rw [List.length_set]; exact h.len, fun k e q hk => ?_, fun k e q hk => ?_, fun k l b e e' q1 q2 hk hl h1 h2 => ?_⟩
  · rcases get q with ⟨rfl, rfl⟩ | ⟨hn, q⟩
    · rw [hM] at hk; cases hk
    · exact h.fr k e q hk
  · rcases get q with ⟨rfl, rfl⟩ | ⟨hn, q⟩
    · exact ⟨a, hr, ow⟩
    · obtain ⟨b, h1, h2⟩ := h.ow k e q hk
      exact ⟨b, h1, h2.putO fun z => hn (h.dj k i a e d q hm hk hM (z ▸ h1) hr)⟩
  · obtain ⟨x, q1⟩ := old q1
    obtain ⟨y, q2⟩ := old q2
    exact h.dj k l b x y q1 q2 hk hl h1 h2
end

def sApp (i : Nat) (fe : Ev J) (m : Sd) (j : J) (P : Fl → Sd → J → Prop) (E : XP J) : Prop :=
  ∃ xs, m[i]? = some (some (.lst xs)) ∧ fe m j (fun d j1 => xs.length < LINE ∧ P .next (m.set i (some (.lst (xs ++ [d])))) j1) E
def sExt (i : Nat) (fe : Ev J) (m : Sd) (j : J) (P : Fl → Sd → J → Prop) (E : XP J) : Prop :=
  ∃ xs, m[i]? = some (some (.lst xs)) ∧ fe m j (fun d j1 => ∃ ys, d = .lst ys ∧ xs.length + ys.length ≤ LINE ∧ P .next (m.set i (some (.lst (xs ++ ys)))) j1) E
/-- i[k] = e -/
def sSetIx (i : Nat) (fk fe : Ev J) (m : Sd) (j : J) (P : Fl → Sd → J → Prop) (E : XP J) : Prop :=
  ∃ xs, m[i]? = some (some (.lst xs)) ∧ fe m j (fun d j1 => fk m j1 (fun kk j2 => ∃ k n, kk = .int k ∧ ixN xs.length k = some n ∧ P .next (m.set i (some (.lst (xs.set n d)))) j2) E) E
/-- i.append(k.pop(e)) -/
def sAppPop (i k : Nat) (fe : Ev J) (m : Sd) (j : J) (P : Fl → Sd → J → Prop) (E : XP J) : Prop :=
  ∃ xs ys, m[i]? = some (some (.lst xs)) ∧ m[k]? = some (some (.lst ys)) ∧ i ≠ k ∧ fe m j (fun d j1 => ∃ n y, d = .int n ∧ 0 ≤ n ∧ n < (ys.length : Int) ∧ xs.length < LINE ∧ ys.length ≤ LINE ∧ ys[n.toNat]? = some y ∧
    P .next ((m.set k (some (.lst (ys.eraseIdx n.toNat)))).set i (some (.lst (xs ++ [y])))) j1) E
/-- γ = i.pop() -/
def sPopTo (i : Nat) (γ : Gv) (m : Sd) (j : J) (P : Fl → Sd → J → Prop) (E : XP J) : Prop :=
  ∃ xs y m1, m[i]? = some (some (.lst xs)) ∧ xs.getLast? = some y ∧ γ y (m.set i (some (.lst xs.dropLast))) = some m1 ∧ P .next m1 j
section
variable {i k : Nat} {f1 f2 f3 : Ev J} {γ : Gv}
instance [h1 : MoE f1] : MoS (sApp i f1) := ⟨fun ⟨xs, e, h⟩ q x => ⟨xs, e, h1.mo h (fun _ _ ⟨l, p⟩ => ⟨l, q _ _ _ p⟩) x⟩⟩
instance [h1 : MoE f1] : MoS (sExt i f1) := ⟨fun ⟨xs, e, h⟩ q x => ⟨xs, e, h1.mo h (fun _ _ ⟨ys, e, l, p⟩ => ⟨ys, e, l, q _ _ _ p⟩) x⟩⟩
instance [h1 : MoE f1] [h2 : MoE f2] : MoS (sSetIx i f1 f2) := ⟨fun ⟨xs, e, h⟩ q x => ⟨xs, e, h2.mo h (fun _ _ p => h1.mo p (fun _ _ ⟨k, n, e, l, p⟩ => ⟨k, n, e, l, q _ _ _ p⟩) x) x⟩⟩
instance [h1 : MoE f1] : MoS (sAppPop i k f1) := ⟨fun ⟨xs, ys, e1, e2, n, h⟩ q x => ⟨xs, ys, e1, e2, n, h1.mo h (fun _ _ ⟨n, y, a1, a2, a3, a4, a5, a6, p⟩ => ⟨n, y, a1, a2, a3, a4, a5, a6, q _ _ _ p⟩) x⟩⟩
instance : MoS (sPopTo (J := J) i γ) := ⟨fun ⟨xs, y, m1, a, b, c, p⟩ q x => ⟨xs, y, m1, a, b, c, q _ _ _ p⟩⟩
end
section
variable {S : Js J} {B : Bs} {M : Nat → Bool} {W : WX} {X : Cx} {e ek a b c tg : Expr} {pos p ap np : Pos} {fe fk : Ev J} {i k : Nat} {x y : Str}
theorem own_lst {g : Gh} {xs : List D} {a : Addr} (h : Own S g (.lst xs) a) : g.F a = none ∧ ∃ vs, g.G a = some (.lst vs) ∧ RpL S g.F xs vs := by
  obtain ⟨n, ⟨ds, vs, e, e2, t⟩ | ⟨kds, kvs, e, _⟩ | ⟨kds, kvs, e, _⟩⟩ := h
  · cases e; exact ⟨n, vs, e2, t⟩
  · cases e
  · cases e
/-- the facts of a method's call on a name -/
structure MtN (X : Cx) (i : Nat) (x : Str) : Prop where
  n : X.N[i]? = some x
  v : Vis X.env.scope x
  d : (x == ("__debug__" : Str)) = false
  c : (x == ("__classdict__" : Str)) = false
theorem MtN.pe (h : MtN X i x) {q : Pos} : PE X (.Name x q) (tVar i) := pe_var h.n h.v h.d h.c
theorem s_app (hM : M i = true) (hx : MtN X i x) (he : PE X e (rdE S B M W .clean fe)) (hl : (ap.endLine == p.line) = true) (hs : starEach [e] X.env = [(false, eval e X.env)])
    (hb : attributeBase (.Name x np) "append" X.env (eval (.Name x np) X.env) = eval (.Name x np) X.env) (hf : ((backTo p (starEach [e] X.env)).all (fun x => !x.1) && (backToKw p (keywordEach [] X.env)).all (fun x => x.1.isSome)
      && decide (([e] : List Expr).length + ([] : List Keyword).length + (if ([] : List Keyword).isEmpty then 0 else 1) < 30)) = true) (hsw : swapsWith (.Call (.Attribute (.Name x np) "append" ap) [e] [] p) none pos.line X.env = pure false) :
    PS X (.Expr (.Call (.Attribute (.Name x np) "append" ap) [e] [] p) pos) (rdS S B M W (sApp i fe)) :=
  PS.imp (ps_expr (pe_bm PySem.F.plainAttrs_list PySem.F.slot_list_append PySem.F.type_list_append mt_append hx.pe (pa_cons he pa_nil hs) hb hf hl hs rfl) hsw) fun E r H ⟨g, m, j, P, Ep, ok, ⟨xs, hm, hf⟩, q, xo⟩ => by
    obtain ⟨a, hr, ho⟩ := ok.s.ow i _ hm hM
    obtain ⟨_, vs0, hG0, _⟩ := own_lst ho
    refine ⟨_, hr, .inl ⟨rfl, _, .of (ok.b.gh _ _ hG0)⟩, g, m, j, _, Ep, ok, hf, fun d j1 g1 v H1 ⟨hlen, p⟩ l1 ok1 w => ?_, xo⟩
    obtain ⟨hF, vs, hG, t⟩ := own_lst (ho.le l1)
    refine ⟨a, vs, v, rfl, rfl, ok1.b.gh _ _ hG, by rw [← t.length]; exact Nat.lt_of_lt_of_le hlen line_ok, ?_⟩
    refine q _ _ _ p (g1.put a (.lst (vs ++ [v]))) r _ l1.f ⟨ok1.b.put hF hG (by intro x y z; cases z), ok1.s.put hM hm hr ⟨hF, .inl ⟨_, _, rfl, upd_same, t.append (.cons w .nil)⟩⟩⟩
theorem s_ext (hM : M i = true) (hx : MtN X i x) (he : PE X e (rdE S B M W .clean fe)) (hl : (ap.endLine == p.line) = true) (hs : starEach [e] X.env = [(false, eval e X.env)])
    (hb : attributeBase (.Name x np) "extend" X.env (eval (.Name x np) X.env) = eval (.Name x np) X.env) (hf : ((backTo p (starEach [e] X.env)).all (fun x => !x.1) && (backToKw p (keywordEach [] X.env)).all (fun x => x.1.isSome)
      && decide (([e] : List Expr).length + ([] : List Keyword).length + (if ([] : List Keyword).isEmpty then 0 else 1) < 30)) = true) (hsw : swapsWith (.Call (.Attribute (.Name x np) "extend" ap) [e] [] p) none pos.line X.env = pure false) :
    PS X (.Expr (.Call (.Attribute (.Name x np) "extend" ap) [e] [] p) pos) (rdS S B M W (sExt i fe)) :=
  PS.imp (ps_expr (pe_bm PySem.F.plainAttrs_list PySem.F.slot_list_extend PySem.F.type_list_extend mt_extend hx.pe (pa_cons he pa_nil hs) hb hf hl hs rfl) hsw) fun E r H ⟨g, m, j, P, Ep, ok, ⟨xs, hm, hf⟩, q, xo⟩ => by
    obtain ⟨a, hr, ho⟩ := ok.s.ow i _ hm hM
    obtain ⟨_, vs0, hG0, _⟩ := own_lst ho
    refine ⟨_, hr, .inl ⟨rfl, _, .of (ok.b.gh _ _ hG0)⟩, g, m, j, _, Ep, ok, hf, fun d j1 g1 v H1 hh l1 ok1 w => ?_, xo⟩
    obtain ⟨ys, rfl, hlen, p⟩ := hh
    obtain ⟨hF, vs, hG, t⟩ := own_lst (ho.le l1)
    obtain ⟨b, ws, rfl, hb, rb⟩ := lst_of w
    refine ⟨a, b, vs, ws, rfl, rfl, ok1.b.gh _ _ hG, (ok1.b.fg.trans ok1.b.gh) _ _ hb, by rw [← t.length, ← rb.length]; exact Nat.le_trans hlen line_ok, ?_⟩
    refine q _ _ _ p (g1.put a (.lst (vs ++ ws))) r _ l1.f ⟨ok1.b.put hF hG (by intro x y z; cases z), ok1.s.put hM hm hr ⟨hF, .inl ⟨_, _, rfl, upd_same, t.append rb⟩⟩⟩
end

/-! ### two and three names at once -/
def clOf (M : Nat → Bool) (i : Nat) : Cl := if M i then .fresh else .clean
def sPr2 (i k : Nat) (fa fb : Ev J) (m : Sd) (j : J) (P : Fl → Sd → J → Prop) (E : XP J) : Prop := fa m j (fun x j1 => fb m j1 (fun y j2 => P .next ((m.set i (some x)).set k (some y)) j2) E) E
def sPr3 (i k l : Nat) (fa fb fc : Ev J) (m : Sd) (j : J) (P : Fl → Sd → J → Prop) (E : XP J) : Prop := fa m j (fun x j1 => fb m j1 (fun y j2 => fc m j2 (fun z j3 => P .next (((m.set i (some x)).set k (some y)).set l (some z)) j3) E) E) E
instance {i k : Nat} {f1 f2 : Ev J} [h1 : MoE f1] [h2 : MoE f2] : MoS (sPr2 i k f1 f2) := ⟨fun h q x => h1.mo h (fun _ _ h => h2.mo h (fun _ _ p => q _ _ _ p) x) x⟩
instance {i k l : Nat} {f1 f2 f3 : Ev J} [h1 : MoE f1] [h2 : MoE f2] [h3 : MoE f3] : MoS (sPr3 i k l f1 f2 f3) := ⟨fun h q x => h1.mo h (fun _ _ h => h2.mo h (fun _ _ h => h3.mo h (fun _ _ p => q _ _ _ p) x) x) x⟩
section
variable {S : Js J} {B : Bs} {M : Nat → Bool} {W : WX} {X : Cx} {g0 g g' : Gh} {r : St} {m : Sd} {i k l : Nat} {d : D} {v : V}
/-- no owned slot holds v -/
def Apt (M : Nat → Bool) (r : St) (m : Sd) (v : V) : Prop := ∀ k e, M k = true → m[k]? = some (some e) → r[k]? ≠ some (some v)
theorem Slots.setC (h : Slots S g M r m) (w : Val S g0 g (clOf M i) d v) (ap : M i = true → Apt M r m v) : Slots S g M (r.set i (some v)) (m.set i (some d)) := by
  unfold clOf at w
  cases hM : M i with
  | false => rw [hM] at w; exact h.set_fr hM w
  | true =>
    rw [hM] at w
    obtain ⟨a, rfl, n, o⟩ := w
    exact h.set_ow hM o fun k e _ hk he => ap hM k e hk he
theorem Slots.apt (h : Slots S g M r m) {w : Cl} (v' : Val S g g' .fresh d v) : Apt M r m v := fun k e hk he z => by
  obtain ⟨a, rfl, n, _⟩ := v'
  exact (h.apart_fresh (i := k + 1) n) k e (by omega) hk he z
theorem apt_set {r : St} {m : Sd} {v : V} (h : Apt M r m v) {i : Nat} {d : D} {u : V} (n : M i = true → u ≠ v) : Apt M (r.set i (some u)) (m.set i (some d)) v := fun k e hk he z => by
  by_cases hki : k = i
  · subst hki
    have hl : k < m.length := by
      have := (List.getElem?_eq_some_iff.mp he).1
      simpa using this
    by_cases hr : k < r.length
    · rw [List.getElem?_set_self hr] at z
      cases z
      exact n hk rfl
    · rw [List.getElem?_eq_none (by simpa using hr)] at z
      cases z
  · rw [List.getElem?_set_ne (Ne.symm hki)] at he z
    exact h k e hk he z
theorem val_in (h : Val S g0 g .fresh d v) : ∃ a o, v = .ref a ∧ g.G a = some o := by
  obtain ⟨a, rfl, _, o⟩ := h
  obtain ⟨ob, e⟩ := o.in_g
  exact ⟨a, ob, rfl, e⟩
theorem clOf_fresh (hM : M i = true) (h : Val S g0 g (clOf M i) d v) : Val S g0 g .fresh d v := by
  unfold clOf at h; rw [hM] at h; exact h
variable {a b c : Expr} {fa fb fc : Ev J} {pos px py pz pt pt2 : Pos} {kt k2 : Nat} {x y z : Str}
theorem s_pr2 (hc : X.calm = true) (hN : X.N.Nodup) (hi : X.N[i]? = some x) (hk : X.N[k]? = some y) (hik : i ≠ k) (hx : X.env.scope.names.lookup x = some .local) (hy : X.env.scope.names.lookup y = some .local)
    (ha : PE X a (rdE S B M W (clOf M i) fa)) (hb : PE X b (rdE S B M W (clOf M k) fb)) (hs1 : starEach [a, b] X.env = (false, eval a X.env) :: starEach [b] X.env) (hs2 : starEach [b] X.env = [(false, eval b X.env)])
    (hw : swappedStores [.Tuple [.Name x px, .Name y py] kt pt] (.Tuple [a, b] k2 pt2) X.env = pure (some [x, y]))
    (hs : swapsWithSole [.Tuple [.Name x px, .Name y py] kt pt] (.Tuple [a, b] k2 pt2) pos.line X.env = pure false) :
    PS X (.Assign [.Tuple [.Name x px, .Name y py] kt pt] (.Tuple [a, b] k2 pt2) pos) (rdS S B M W (sPr2 i k fa fb)) :=
  PS.imp (ps_par hc hN hi hk hik hx hy (pa_cons ha (pa_cons hb pa_nil hs2) hs1) hw hs) fun E r H ⟨g, m, j, P, Ep, ok, hf, q, xo⟩ => by
    refine ⟨g, m, j, _, Ep, ok, hf, fun _ j1 g1 v1 H1 h1 l1 ok1 w1 => ⟨g1, m, _, _, Ep, ok1, h1, fun _ j2 g2 v2 H2 p l2 ok2 w2 => ⟨v1, v2, rfl, ?_⟩, xo.le l1.f⟩, xo⟩
    refine q _ _ _ p g2 _ H2 (l1.trans l2).f ⟨ok2.b, (ok2.s.setC (w1.le l2) fun hM => ok.s.apt (w := .fresh) (clOf_fresh hM w1)).setC w2 fun hM => apt_set (ok1.s.apt (w := .fresh) (clOf_fresh hM w2)) fun hMi => ?_⟩
    obtain ⟨a1, o1, rfl, e1⟩ := val_in (clOf_fresh hMi w1)
    obtain ⟨a2, rfl, n2, _⟩ := clOf_fresh hM w2
    intro z
    cases z
    rw [n2] at e1; cases e1
theorem s_pr3 (hc : X.calm = true) (hN : X.N.Nodup) (hi : X.N[i]? = some x) (hk : X.N[k]? = some y) (hl : X.N[l]? = some z) (hik : i ≠ k) (hil : i ≠ l) (hkl : k ≠ l) (hx : X.env.scope.names.lookup x = some .local) (hy : X.env.scope.names.lookup y = some .local) (hz : X.env.scope.names.lookup z = some .local)
    (ha : PE X a (rdE S B M W (clOf M i) fa)) (hb : PE X b (rdE S B M W (clOf M k) fb)) (hcc : PE X c (rdE S B M W (clOf M l) fc)) (hs1 : starEach [a, b, c] X.env = (false, eval a X.env) :: starEach [b, c] X.env) (hs2 : starEach [b, c] X.env = (false, eval b X.env) :: starEach [c] X.env) (hs3 : starEach [c] X.env = [(false, eval c X.env)])
    (hw : swappedStores [.Tuple [.Name x px, .Name y py, .Name z pz] kt pt] (.Tuple [a, b, c] k2 pt2) X.env = pure (some [x, y, z]))
    (hs : swapsWithSole [.Tuple [.Name x px, .Name y py, .Name z pz] kt pt] (.Tuple [a, b, c] k2 pt2) pos.line X.env = pure false) :
    PS X (.Assign [.Tuple [.Name x px, .Name y py, .Name z pz] kt pt] (.Tuple [a, b, c] k2 pt2) pos) (rdS S B M W (sPr3 i k l fa fb fc)) :=
  PS.imp (ps_par3 hc hN hi hk hl hik hil hkl hx hy hz (pa_cons ha (pa_cons hb (pa_cons hcc pa_nil hs3) hs2) hs1) hw hs) fun E r H ⟨g, m, j, P, Ep, ok, hf, q, xo⟩ => by
    refine ⟨g, m, j, _, Ep, ok, hf, fun _ j1 g1 v1 H1 h1 l1 ok1 w1 => ⟨g1, m, _, _, Ep, ok1, h1, fun _ j2 g2 v2 H2 h2 l2 ok2 w2 => ⟨g2, m, _, _, Ep, ok2, h2, fun _ j3 g3 v3 H3 p l3 ok3 w3 => ⟨v1, v2, v3, rfl, ?_⟩, xo.le (l1.trans l2).f⟩, xo.le l1.f⟩, xo⟩
    have d12 : M i = true → M k = true → v1 ≠ v2 := fun hMi hM => by
      obtain ⟨a1, o1, rfl, e1⟩ := val_in (clOf_fresh hMi w1)
      obtain ⟨a2, rfl, n2, _⟩ := clOf_fresh hM w2
      intro z
      cases z
      rw [n2] at e1; cases e1
    have d13 : M i = true → M l = true → v1 ≠ v3 := fun hMi hM => by
      obtain ⟨a1, o1, rfl, e1⟩ := val_in (clOf_fresh hMi (w1.le l2))
      obtain ⟨a2, rfl, n2, _⟩ := clOf_fresh hM w3
      intro z
      cases z
      rw [n2] at e1; cases e1
    have d23 : M k = true → M l = true → v2 ≠ v3 := fun hMi hM => by
      obtain ⟨a1, o1, rfl, e1⟩ := val_in (clOf_fresh hMi w2)
      obtain ⟨a2, rfl, n2, _⟩ := clOf_fresh hM w3
      intro z
      cases z
      rw [n2] at e1; cases e1
    refine q _ _ _ p g3 _ H3 ((l1.trans l2).trans l3).f ⟨ok3.b, ?_⟩
    refine ((ok3.s.setC ((w1.le l2).le l3) fun hM => ok.s.apt (w := .fresh) (clOf_fresh hM w1)).setC (w2.le l3) fun hM => apt_set (ok1.s.apt (w := .fresh) (clOf_fresh hM w2)) fun hMi => d12 hMi hM).setC w3 fun hM => ?_
    exact apt_set (apt_set (ok2.s.apt (w := .fresh) (clOf_fresh hM w3)) fun hMi => d13 hMi hM) fun hMk => d23 hMk hM
end
end Mp

/-! Mp9: list(range(..)), tuple(range(..)); xs.index(i); x = [.. for ..] at once; defs; the law's end. -/
namespace Mp
open PySem PySem.Spec L2
open PyProof.Rows hiding St
variable {J : Type}

def eLrg (fi : Iv J) (m : Sd) (j : J) (P : D → J → Prop) (E : XP J) : Prop := fi m j (fun ds j1 => ds.length ≤ LINE ∧ P (.lst ds) j1) E
def eTrg (fi : Iv J) (m : Sd) (j : J) (P : D → J → Prop) (E : XP J) : Prop := fi m j (fun ds j1 => ds.length ≤ LINE ∧ P (.tup ds) j1) E
instance {fi : Iv J} [h : MoA fi] : MoE (eLrg fi) := ⟨fun p q x => h.mo p (fun _ _ ⟨l, p⟩ => ⟨l, q _ _ p⟩) x⟩
instance {fi : Iv J} [h : MoA fi] : MoE (eTrg fi) := ⟨fun p q x => h.mo p (fun _ _ ⟨l, p⟩ => ⟨l, q _ _ p⟩) x⟩
section
variable {S : Js J} {B : Bs} {M : Nat → Bool} {W : WX} {X : Cx} {e a b c : Expr} {pos p q0 q1 : Pos} {fa fb : Ev J}
theorem rg_eq (lo hi : Int) : rngD lo (hi - lo).toNat = ((List.range (hi - lo).toNat).map fun i : Nat => lo + (i : Nat)).map D.int := by
  unfold rngD; rw [List.map_map]; rfl
theorem rgV_eq (lo hi : Int) : rgV lo hi = ((List.range (hi - lo).toNat).map fun i : Nat => lo + (i : Nat)).map V.int := by
  unfold rgV; rw [List.map_map]; rfl
theorem rg_rp {F : Hp} (lo hi : Int) : RpL S F (rngD lo (hi - lo).toNat) (rgV lo hi) := by
  rw [rg_eq, rgV_eq]; exact RpL.ints _
theorem rg_ok {lo hi : Int} (h1 : -LIM ≤ lo) (h2 : lo ≤ LIM) (h3 : -LIM ≤ hi) (h4 : hi ≤ LIM) (hl : (rngD lo (hi - lo).toNat).length ≤ LINE) : RgOk lo hi := by
  rw [rngD_length] at hl
  have e1 : LIM = 2 ^ 61 := rfl
  have e2 : LINE = 1000000 := rfl
  rw [e1] at h1 h2 h3 h4
  rw [e2] at hl
  exact ⟨by omega, by omega, by omega, by omega, by omega⟩
theorem lrg_end {g1 g : Gh} {r : St} {H1 : Hp} {m : Sd} {j1 : J} {lo hi : Int} {Q : VK} (l1 : Le g g1) (ok1 : Ok S B g1 M r H1 m j1)
    (q : ∀ g' v H', Le g g' → Ok S B g' M r H' m j1 → Val S g g' .fresh (.lst (rngD lo (hi - lo).toNat)) v → Q v H') : ∀ p, H1 p = none → Q (.ref p) (upd H1 p (.lst (rgV lo hi))) := fun p hp => by
  obtain ⟨n1, n2, n3, n4⟩ := ok1.b.hn hp
  exact q (g1.see p (.lst (rgV lo hi))) _ _ (l1.trans (Le.see n2)) ⟨ok1.b.see _ hp, ok1.s.le (Le.see n2)⟩ ⟨p, rfl, l1.g.free n2, n1, .inl ⟨_, _, rfl, upd_same, rg_rp lo hi⟩⟩
theorem trg_end {g1 g : Gh} {r : St} {H1 : Hp} {m : Sd} {j1 : J} {lo hi : Int} {Q : VK} (l1 : Le g g1) (ok1 : Ok S B g1 M r H1 m j1)
    (q : ∀ g' v H', Le g g' → Ok S B g' M r H' m j1 → Val S g g' .clean (.tup (rngD lo (hi - lo).toNat)) v → Q v H') : NewT H1 (rgV lo hi) Q := fun p o hp hd => by
  obtain ⟨n1, n2, n3, n4⟩ := ok1.b.hn hp
  exact q (g1.frz p (.frz o (.tup (rgV lo hi)))) _ _ (l1.trans (Le.frz ok1.b.fg n2)) ⟨ok1.b.frz _ hp, ok1.s.le (Le.frz ok1.b.fg n2)⟩ (Rp.tup (.inl ⟨o, upd_same, hd⟩) (rg_rp lo hi))
theorem e_lrg1 (hc : X.calm = true) (hgl : Gl X "list") (hml : X.mg "list" = none) (hg : Gl X "range") (hm : X.mg "range" = none) (ha : PE X a (rdE S B M W .mix fa)) (hs : starEach [a] X.env = [(false, eval a X.env)])
    (hs2 : starEach [.Call (.Name "range" p) [a] [] pos] X.env = [(false, eval (.Call (.Name "range" p) [a] [] pos) X.env)]) :
    PE X (.Call (.Name "list" q0) [.Call (.Name "range" p) [a] [] pos] [] q1) (rdE S B M W .fresh (eLrg (iRng1 fa))) :=
  PE.imp (pe_listRg hc hgl hml (prg_1 hg hm ha hs) hs2) fun r H Q ⟨g, m, j, P, E, ok, hf, q, xo⟩ => by
    refine ⟨g, m, j, _, E, ok, hf, fun d j1 g1 v H1 hh l1 ok1 w => ?_, xo⟩
    obtain ⟨n, rfl, c1, c2, hl, p⟩ := hh
    have e0 : n.toNat = (n - 0).toNat := by omega
    rw [e0] at hl p
    have hL : LIM = 2 ^ 61 := rfl
    exact ⟨n, int_of w, rg_ok (by omega) (by omega) c1 c2 hl, lrg_end l1 ok1 fun g' v H' => q _ _ g' v H' p⟩
theorem e_trg1 (hc : X.calm = true) (hgl : Gl X "tuple") (hml : X.mg "tuple" = none) (hg : Gl X "range") (hm : X.mg "range" = none) (ha : PE X a (rdE S B M W .mix fa)) (hs : starEach [a] X.env = [(false, eval a X.env)])
    (hs2 : starEach [.Call (.Name "range" p) [a] [] pos] X.env = [(false, eval (.Call (.Name "range" p) [a] [] pos) X.env)]) :
    PE X (.Call (.Name "tuple" q0) [.Call (.Name "range" p) [a] [] pos] [] q1) (rdE S B M W .clean (eTrg (iRng1 fa))) :=
  PE.imp (pe_tupRgF hc hgl hml (prg_1 hg hm ha hs) hs2) fun r H Q ⟨g, m, j, P, E, ok, hf, q, xo⟩ => by
    refine ⟨g, m, j, _, E, ok, hf, fun d j1 g1 v H1 hh l1 ok1 w => ?_, xo⟩
    obtain ⟨n, rfl, c1, c2, hl, p⟩ := hh
    have e0 : n.toNat = (n - 0).toNat := by omega
    rw [e0] at hl p
    have hL : LIM = 2 ^ 61 := rfl
    exact ⟨n, int_of w, rg_ok (by omega) (by omega) c1 c2 hl, trg_end l1 ok1 fun g' v H' => q _ _ g' v H' p⟩
end

/-! ### xs.index(i) -/
def idxL (ns : List Int) (k : Int) : Option D := match ns.idxOf? k with | some n => some (.int (n : Nat)) | none => none
def indexD : D → D → Option D
  | .lst xs, .int k => match ints? xs with | some ns => idxL ns k | none => none
  | .tup xs, .int k => match ints? xs with | some ns => idxL ns k | none => none
  | _, _ => none
section
variable {S : Js J} {B : Bs} {M : Nat → Bool} {W : WX} {X : Cx} {e o : Expr} {pos p ap : Pos} {fo fe : Ev J} {ci : Bool}
/-- o.m(e) of a list or a tuple -/
def tBMS (K : PySem.W.Frag) (r1 r2 : V → List V → Hp → VK → Prop) (to : TE) (t : TA) : TE := fun σ H Q => to σ H fun x H1 =>
  (tyV K "list" x H1 ∧ t σ H1 fun xs H2 => r1 x xs H2 Q) ∨ ((∃ a vs, x = .ref a ∧ SqF K H1 a vs) ∧ t σ H1 fun xs H2 => r2 x xs H2 Q)
/-- the receiver's type is asked ahead of the argument: the closure says that it is a list or a tuple -/
def isSq : D → Prop
  | .lst _ => True
  | .tup _ => True
  | _ => False
def eMt (φ : D → D → Option D) (fo fe : Ev J) (m : Sd) (j : J) (P : D → J → Prop) (E : XP J) : Prop := fo m j (fun x j1 => isSq x ∧ fe m j1 (fun y j2 => ∃ z, φ x y = some z ∧ P z j2) E) E
instance {φ : D → D → Option D} {fo fe : Ev J} [h1 : MoE fo] [h2 : MoE fe] : MoE (eMt φ fo fe) := ⟨fun p q x => h1.mo p (fun _ _ ⟨l, p⟩ => ⟨l, h2.mo p (fun _ _ ⟨z, e, p⟩ => ⟨z, e, q _ _ p⟩) x⟩) x⟩
end
end Mp

/-! MpA: x = [.. for ..] at once; defs by their closures; the law's end. -/
namespace Mp
open PySem PySem.Spec L2
open PyProof.Rows hiding St
variable {J : Type}
theorem rd_ice {S : Js J} {B : Bs} {M : Nat → Bool} {W : WX} {f : Ev J} {r : St} {H : Hp} {Q : VK} (h : rdE S B M W .clean f r H Q) : rdE S B M W .fresh f r H Q := by
  obtain ⟨g, m, j, P, E, ok, hf, q, xo⟩ := h
  refine ⟨g, m, j, P, E, ok, hf, fun d j' g' v H' p l ok' w => ?_, xo⟩
  obtain ⟨a, rfl, n, o⟩ := w
  exact q d j' (g'.ice a) _ H' p (l.ice n o.1) ⟨ok'.b.ice o.1, ok.s.ice l n o.1⟩ o.ice
section
variable {S : Js J} {B : Bs} {M : Nat → Bool} {W : WX} {X : Cx} {elt tg iter : Expr} {ifs : List Expr} {scope : Scope} {own : List (Str × Nat)} {pos spos py : Pos} {fi : Iv J} {γ : Gv} {ft : Tv J} {fe : Ev J} {ks : List Nat} {c w : Bool} {i : Nat} {y : Str}
theorem s_setLc (hM : M i = false) (hc : X.calm = true) (hN : X.N.Nodup) (hy : X.N[i]? = some y) (hyl : X.env.scope.names.lookup y = some .local) (hsw : swapsWith (.ListComp elt [⟨tg, iter, ifs, 0⟩] scope pos) (some (.Name y py)) spos.line X.env = pure true)
    (hi : PI X tg iter (rdI S B M W c w fi)) (ok : BlkOk X.N X.env.scope scope own) (hks : ∀ k ∈ ks, k ∈ own.map (·.2))
    (hg : ∀ (s : Shared) (H : Hp) (C : Addr) (cl : List (Str × Addr)) (fp : List Addr), PG (X.blk s H scope (compEnvC scope cl C X.env) fp) tg (rdG S B M w ks γ)) (ht : ∀ (s : Shared) (H : Hp) (C : Addr) (cl : List (Str × Addr)) (fp : List Addr), PTs (X.blk s H scope (compEnvC scope cl C X.env) fp) ifs (rdT S B M W0 ft))
    (he : ∀ (s : Shared) (H : Hp) (C : Addr) (cl : List (Str × Addr)) (fp : List Addr), PE (X.blk s H scope (compEnvC scope cl C X.env) fp) elt (rdE S B M W0 .clean fe)) (hs : ∀ x, foldedSetIterable iter X.env x = pure x) :
    PS X (.Assign [.Name y py] (.ListComp elt [⟨tg, iter, ifs, 0⟩] scope pos) spos) (rdS S B M W (sSet i (eComp (own.map (·.2)) fi γ ft fe))) :=
  PS.imp (ps_setLc hc hN hy hyl hsw hi ok hg ht he hs) fun E r H h => sSet_rd hM (fun _ _ _ z => lc_rd hks (rd_ice z)) h
end

/-! ### a def by its closure -/
def startD (k : Nat) (ds : List D) : Sd := ds.map some ++ List.replicate (k - ds.length) none
def endF (P : D → J → Prop) : Fl → Sd → J → Prop
  | .ret d, _, j => P d j
  | .next, _, j => P .non j
  | .brk, _, _ => False
  | .cnt, _, _ => False
def runF (k n : Nat) (f : Sv J) (ds : List D) (j : J) (P : D → J → Prop) (E : Ex → J → Prop) : Prop := ds.length = n ∧ f (startD k ds) j (endF P) (fun e _ j' => E e j')
theorem endF_mo {P P' : D → J → Prop} (q : ∀ d j, P d j → P' d j) : ∀ l m j, endF P l m j → endF P' l m j
  | .ret _, _, _, h => q _ _ h
  | .next, _, _, h => q _ _ h
instance {k n : Nat} {f : Sv J} [h : MoS f] : MoF (runF k n f) := ⟨fun ⟨l, p⟩ q x => ⟨l, h.mo p (endF_mo q) fun _ _ _ => x _ _⟩⟩
theorem runF_len {k n : Nat} {f : Sv J} (ds : List D) (j : J) (P : D → J → Prop) (E : Ex → J → Prop) (h : runF k n f ds j P E) : ds.length = n := h.1
section
variable {S : Js J}
theorem slots_start {F G : Hp} {A : Addr → Prop} {N : List Str} {ds : List D} {vs : List V} {M : Nat → Bool} (hM : ∀ i, i < ds.length → M i = false) (h : RpL S F ds vs) : Slots S ⟨F, G, A⟩ M (start N vs) (startD N.length ds) := by
  have get : ∀ {i : Nat} {d : D}, (startD N.length ds)[i]? = some (some d) → ds[i]? = some d := fun {i d} e => by
    unfold startD at e
    by_cases hi : i < (ds.map some).length
    · rw [List.getElem?_append_left hi, List.getElem?_map, Option.map_eq_some_iff] at e
      obtain ⟨d', h1, h2⟩ := e
      cases h2
      exact h1
    · rw [List.getElem?_append_right (by omega), List.getElem?_replicate] at e
      split at e <;> cases e
  have lt : ∀ {i : Nat} {d : D}, ds[i]? = some d → i < ds.length := fun e => (List.getElem?_eq_some_iff.mp e).1
  refine ⟨?_, fun i d e _ => ?_, fun i d e m => ?_, fun i k a d d' e _ m _ _ _ => ?_⟩
  · unfold L2.start startD
    rw [List.length_append, List.length_append, List.length_map, List.length_map, List.length_replicate, List.length_replicate, h.length]
  · obtain ⟨v, h1, h2⟩ := h.get (get e)
    refine ⟨v, ?_, h2⟩
    unfold L2.start
    rw [List.getElem?_append_left (by rw [List.length_map]; exact (List.getElem?_eq_some_iff.mp h1).1), List.getElem?_map, h1]
    rfl
  · rw [hM i (lt (get e))] at m; cases m
  · rw [hM i (lt (get e))] at m; cases m
/-- what leaves a def -/
def WD (E : XK) : WX := fun cls d _ H => E cls d H
theorem run_end {F H : Hp} {A : Addr → Prop} {j : J} {ds : List D} {vs : List V} {N : List Str} {n : Nat} {f : Sv J} {M : Nat → Bool} {Q : VK} {E : XK} {P : D → J → Prop} {Ep : Ex → J → Prop} (fh : Same F H) (fa : ∀ b o, F b = some o → ¬ A b) (jr : S.rep j F A H) (sm : ∃ o u, H sysModules = some (.frz o u))
    (hM : ∀ i, i < n → M i = false) (rp : RpL S F ds vs) (hf : runF N.length n f ds j P Ep) (q : ∀ d j' F' A' H' v, P d j' → FPost S F A H F' A' H' j' → Rp S F' d v → Q v H') (x : ∀ e j' F' A' H' cls dx, Ep e j' → FPost S F A H F' A' H' j' → ExR S F' e cls dx → E cls dx H') :
    rdS S ⟨F, H, A⟩ M (WD E) f { nx := fun _ H' => Q .non H', rt := Q } (start N vs) H := by
  obtain ⟨hl, hf⟩ := hf
  have ok0 : Ok S ⟨F, H, A⟩ ⟨F, F, A⟩ M (start N vs) H (startD N.length ds) j :=
    ⟨⟨Same.refl _, fh, fa, jr, Same.refl _, fun b o e => .inl e, fun b z => .inl z, fun b o e _ => e, fun b e => e, sm⟩, slots_start (fun i hi => hM i (hl ▸ hi)) rp⟩
  have post : ∀ {g' : Gh} {H' : Hp} {jj : J}, OkB S ⟨F, H, A⟩ g' H' jj → FPost S F A H g'.G g'.A H' jj := fun {g' H' jj} ok =>
    ⟨ok.f0.trans ok.fg, ok.gh, ok.ga, S.frame ok.jr ok.fg fun _ _ => rfl, ok.h0, ok.g0, ok.a0, ok.h1, ok.sm⟩
  refine ⟨_, _, j, _, _, ok0, hf, fun fl m' j' p => ?_, fun e m' j' g' r' H' cls dx pe _ ok' ex => x e j' _ _ H' cls dx pe (post ok'.b) (ex.mono ok'.b.fg)⟩
  cases fl with
  | ret d => exact fun g' H' v ok rv => q _ _ _ _ H' v p (post ok) rv
  | next => exact fun g' r' H' _ ok => q _ _ _ _ H' .non p (post ok.b) .non
  | brk => exact p.elim
  | cnt => exact p.elim
end
/-- the context of a def's body -/
abbrev cxE (P : Program) (w : World) (K : PySem.W.Frag) (mg : Str → Option Value) (base : Heap) (N : List Str) (qual : Str) (scope : Scope) (f : Addr) (cd : Value) (A : Around) (outer : List Env) (s : Shared) (H : Hp) (E : XK) : Cx :=
  cxOf (L2.CX P w) P w K mg base N qual scope f cd A outer s H E
/-- .. where nothing that is raised leaves it -/
abbrev cxF (P : Program) (w : World) (K : PySem.W.Frag) (mg : Str → Option Value) (base : Heap) (N : List Str) (qual : Str) (scope : Scope) (f : Addr) (cd : Value) (A : Around) (outer : List Env) (s : Shared) (H : Hp) (E : XK) : Cx :=
  (cxOf CX0 P w K mg base N qual scope f cd A outer s H E).nox
section
variable {P : Program} {w : World} {K : PySem.W.Frag} {mg : Str → Option Value} {base : Heap} {S : Js J}
theorem takesE {N : List Str} {qual : Str} {scope : Scope} {f : Addr} {cd : Value} {A : Around} {outer : List Env} {s : Shared} {H : Hp} {E : XK} : Takes (cxE P w K mg base N qual scope f cd A outer s H E) (WD E) := takes_of rfl rfl rfl rfl
theorem ownE {N : List Str} {qual : Str} {scope : Scope} {f : Addr} {cd : Value} {A : Around} {outer : List Env} {s : Shared} {H : Hp} {E : XK} : PassesOwn (model P w) (cxE P w K mg base N qual scope f cd A outer s H E).A (cxE P w K mg base N qual scope f cd A outer s H E).env (cxE P w K mg base N qual scope f cd A outer s H E).xe := passes_of rfl
theorem FnG.ofN {k : Nat} {f : Addr} {fd : FuncData} {ps : List Str} {sp : Sp} (F : FnG P w K mg base CX0 k f fd ps sp) : FnG P w K mg base (L2.CX P w) k f fd ps sp :=
  ⟨F.len, fun A outer s H args us vs Q E hr hg he hb hv hs => codeAny_mono (F.run A outer s H args us vs Q E hr hg he hb hv hs) fun r s' h => by
    cases r with
    | error e => exact False.elim h
    | ok fl => cases fl <;> exact h⟩
theorem fnG_sp {x qual : Str} {st : Stmt} {f : Addr} {fd : FuncData} {N ps : List Str} {k : Nat} {sp : Sp} (F : L2.Fun K x qual st f fd) (Sc : FnScope N ps (defScope st)) (len : ∀ vs H Q E, sp vs H Q E → vs.length = ps.length)
    (hbody : ∀ (cdv : Value) (A : Around) (outer : List Env) (s : Shared) (H : Hp) (vs : List V) (Q : VK) (E : XK), Room k (A.deeper (envOfC qual (defScope st) s.heap.objs.size f cdv)) → (A.deeper (envOfC qual (defScope st) s.heap.objs.size f cdv)).guards = some [] → sp vs H Q E →
      ∃ t, PSs (cxF P w K mg base N qual (defScope st) f cdv A outer s H E) (defBody st) t ∧ t { nx := fun _ H' => Q .non H', rt := Q } (start N vs) H) : FnG P w K mg base CX0 (k + 1) f fd ps sp := by
  obtain ⟨oc, od, kV, doc, pm, an, cdv, ct, osl, rfl, lk, hcd⟩ := F.ex
  refine fnG_of lk hcd Sc len fun A outer s H vs Q E hr hgd hsp => ?_
  obtain ⟨t, h, q⟩ := hbody cdv A outer s H vs Q E hr hgd hsp
  exact ⟨t, h.nox, q⟩
theorem fnG_D {x qual : Str} {st : Stmt} {f : Addr} {fd : FuncData} {N ps : List Str} {n k : Nat} {M : Nat → Bool} {fs : Sv J} (F : L2.Fun K x qual st f fd) (Sc : FnScope N ps (defScope st)) (hn : ps.length = n) (hM : ∀ i, i < n → M i = false)
    (hbody : ∀ (cdv : Value) (A : Around) (outer : List Env) (s : Shared) (H : Hp) (E : XK) (B : Bs), Room k (A.deeper (envOfC qual (defScope st) s.heap.objs.size f cdv)) → (A.deeper (envOfC qual (defScope st) s.heap.objs.size f cdv)).guards = some [] →
      PSs (cxE P w K mg base N qual (defScope st) f cdv A outer s H E) (defBody st) (rdS S B M (WD E) fs)) : FnG P w K mg base (L2.CX P w) (k + 1) f fd ps (spF S n (runF N.length n fs)) := by
  obtain ⟨oc, od, kV, doc, pm, an, cdv, ct, osl, rfl, lk, hcd⟩ := F.ex
  refine fnG_of lk hcd Sc (fun vs H Q E h => ?_) fun A outer s H vs Q E hr hgd h => ?_
  · obtain ⟨_, _, _, ds, _, _, _, _, _, _, rp, hl, _⟩ := h
    rw [← rp.length, hl, hn]
  · obtain ⟨F0, A0, j, ds, P, Ep, fh, fa, jr, sm, rp, hl, hf, q, xx⟩ := h
    exact ⟨_, hbody cdv A outer s H E ⟨F0, H, A0⟩ hr hgd, run_end fh fa jr sm hM rp hf q xx⟩
end
end Mp

/-! MpB: the law's end. -/
namespace Mp
open PySem PySem.Spec L2
open PyProof.Rows hiding St
variable {J : Type}
/-- what a law is promised -/
def spLaw (K : PySem.W.Frag) : Sp := fun vs H Q _ => ∃ (a : Addr) (ns : List Int), vs = [.ref a] ∧ ns.length ≤ 63 ∧ (∀ z ∈ ns, Builtin.Int.intBits z ≤ 1048576) ∧ SqL K H a (ns.map V.int) ∧ (∃ o u, H sysModules = some (.frz o u)) ∧ ∀ H', Q (.bl true) H'
theorem law_callG {P : Program} {w : World} {K : PySem.W.Frag} {mg mb : Str → Option Value} {k : Nat} {fa a : Addr} {fd : FuncData} {x : Str} {s₁ : Shared} {vs : List Value} {ns : List Int}
    (KX : K.In s₁.heap) (hns : s₁.heap.Ns mainGlobals mg) (hb : s₁.heap.Ns builtinsNs mb) (hbb : ∀ x : Str, x ≠ "__name__" → mb x = bootBuiltins x) (hlim : s₁.heap.NoLimit) (hg : s₁.gens = #[]) (hsm : ∃ mm, s₁.heap.Ns sysModules mm) (hKs : K.lookup sysModules = none)
    (ha : s₁.heap.get? a = some { cls := .type "list", data := .seq vs.toArray }) (hi : IntsAre vs ns) (hl : ns.length ≤ 63) (hbits : ∀ z ∈ ns, Builtin.Int.intBits z ≤ 1048576) (hr : Room k callerA)
    (F : ∀ base : Heap, K.In base → base.Ns mainGlobals mg → FnG P w K mg base CX0 k fa fd [x] (spLaw K)) (hbind : ∀ (s : Shared) (u : Value), BindsTo s fd ⟨[u], []⟩ [(x, u)]) :
    codeAny (model P w) callerA (.call (.ref fa) ⟨[.ref a], []⟩) (fun r s' => r = .ok (.ret (.bool true)) ∧ OldK s₁.heap s'.heap ∧ s'.os = s₁.os ∧ AllBare s'.gens) s₁ := by
  have rv := vals_ints hi
  have lenV := hi.length
  have hl' : ns.length ≤ sizeLine := Nat.le_trans hl (by decide)
  obtain ⟨mm, om, em, pm, hm1, hm2, hm3⟩ := hsm
  have hne : a ≠ sysModules := by
    intro z
    subst z
    rw [ha] at hm1
    cases hm1
    have d' : Data.seq vs.toArray _ = Data.dict em pm := hm2
    cases d'
  -- from an abstract heap in which nothing but the script and the modules' dict may be tracked
  have core : ∀ H : Hp, (∀ b u, H b = some u → (∃ o y, u = .frz o y) ∧ (b = a ∨ b = sysModules)) → SqL K H a (ns.map V.int) → (∃ o u, H sysModules = some (.frz o u)) → HOk P w H s₁.heap → (H a ≠ none → K.lookup a = none) →
      codeAny (model P w) callerA (.call (.ref fa) ⟨[.ref a], []⟩) (fun r s' => r = .ok (.ret (.bool true)) ∧ OldK s₁.heap s'.heap ∧ s'.os = s₁.os ∧ AllBare s'.gens) s₁ := by
    intro H hO hS hSM hok hK
    have base_of : ∀ {b : Addr} {o : Obj}, s₁.heap.get? b = some o → H b = none → (hidT s₁.heap H).get? b = some o := fun e n => hidT_get e n
    have noA : ∀ {b : Addr} {o : Obj} {es : Array DictEntry} {ep : Nat}, s₁.heap.get? b = some o → o.data = .dict es ep → b ≠ sysModules → H b = none := fun {b o es ep} e d hn => by
      cases q : H b with
      | none => rfl
      | some u =>
        have e' : b = a := (hO b u q).2.resolve_right hn
        subst e'
        rw [ha] at e; cases e
        have d' : Data.seq vs.toArray _ = Data.dict es ep := d
        cases d'
    have nsK : ∀ {b : Addr} {m : Str → Option Value}, b ≠ sysModules → s₁.heap.Ns b m → (hidT s₁.heap H).Ns b m := fun {b m} hn ⟨o, es, ep, e, d, r⟩ => ⟨o, es, ep, base_of e (noA e d hn), d, r⟩
    have hKb : K.In (hidT s₁.heap H) := fun b o e => base_of (KX b o e) (by
      cases q : H b with
      | none => rfl
      | some u =>
        rcases (hO b u q).2 with z | z
        · subst z
          rw [hK (by rw [q]; simp)] at e; cases e
        · subst z
          rw [hKs] at e; cases e)
    have hM : Mod K mg (hidT s₁.heap H) := ⟨hKb, nsK (by decide) hns, ⟨mb, nsK (by decide) hb, hbb⟩, let ⟨mc, h1, h2⟩ := hlim; ⟨mc, nsK (by decide) h1, h2⟩⟩
    have e0 : Env0 P w K mg (hidT s₁.heap H) callerA [] s₁ H := ⟨rfl, hM, fun b o e => of_hidT e, Nat.le_of_eq (hidT_size _ _), trivial, fun b hb => absurd (show b ∈ ([] : List Addr) from hb) (by simp), hok, .of_eq hg⟩
    refine codeAny_mono ((F _ hKb (nsK (by decide) hns)).run callerA [] s₁ H ⟨[.ref a], []⟩ [.ref a] [.ref a] (fun v _ => v = .bl true) E0 hr rfl e0 (hbind s₁ (.ref a)) (.cons rfl .nil) ⟨a, ns, rfl, hl, hbits, hS, hSM, fun _ => rfl⟩) fun r s' h => ?_
    cases r with
    | error e => exact False.elim h
    | ok fl =>
      cases fl with
      | next => exact False.elim h
      | brk => exact False.elim h
      | cont => exact False.elim h
      | ret u =>
        obtain ⟨v, H', os, bare, un, hok', r', q⟩ := h
        have q' : v = .bl true := q
        subst q'
        obtain rfl : u = Value.bool true := r'
        refine ⟨rfl, OldK.of_keep fun b o e => ?_, os, bare⟩
        cases q : H b with
        | none => exact un.keep b o e q (by intro z; exact absurd (show b ∈ ([] : List Addr) from z) (by simp)) (by simp)
        | some u =>
          obtain ⟨⟨ob, y, rfl⟩, _⟩ := hO b u q
          have z2 := un.frzs b ob _ q
          obtain ⟨e1, _⟩ := hok b _ q
          obtain ⟨e2, _⟩ := hok' b _ z2
          rw [e] at e1; cases e1
          exact e2
  have sm2 : s₁.heap.get? sysModules = some om := hm1
  cases hk : K.lookup a with
  | some o =>
    have e := KX a o hk
    rw [ha] at e
    cases e
    refine core (fun b => if b = sysModules then some (.frz om (.own 0)) else none) (fun b u z => ?_) (.inr ⟨_, vs.toArray, _, hk, rfl, rfl, rfl, by rw [List.size_toArray, lenV]; exact hl', by simpa using rv⟩) ⟨_, _, if_pos rfl⟩ (fun b u z => ?_) fun z => absurd (if_neg hne) z
    · by_cases hb : b = sysModules
      · rw [if_pos hb] at z; cases z; exact ⟨⟨_, _, rfl⟩, .inr hb⟩
      · rw [if_neg hb] at z; cases z
    · by_cases hb : b = sysModules
      · have z' := (if_pos hb).symm.trans z
        cases z'
        subst hb
        exact ⟨sm2, om, sm2⟩
      · have z' := (if_neg hb).symm.trans z
        cases z'
  | none =>
    refine core (fun b => if b = a then some (.frz { cls := .type "list", data := .seq vs.toArray } (.lst (ns.map V.int))) else if b = sysModules then some (.frz om (.own 0)) else none) (fun b u z => ?_) (.inl (.inr ⟨{ cls := .type "list", data := .seq vs.toArray }, if_pos rfl⟩)) ⟨om, .own 0, ?_⟩ (fun b u z => ?_) fun _ => hk
    · by_cases hb : b = a
      · rw [if_pos hb] at z; cases z; exact ⟨⟨_, _, rfl⟩, .inl hb⟩
      · rw [if_neg hb] at z
        by_cases hb : b = sysModules
        · rw [if_pos hb] at z; cases z; exact ⟨⟨_, _, rfl⟩, .inr hb⟩
        · rw [if_neg hb] at z; cases z
    · show (if sysModules = a then _ else if sysModules = sysModules then _ else _) = _
      rw [if_neg (Ne.symm hne), if_pos rfl]
    · by_cases hb : b = a
      · have z' := (if_pos hb).symm.trans z
        cases z'
        subst hb
        exact ⟨ha, by rw [List.length_map]; exact hl', vs, _, rv, ha⟩
      · have z' := (if_neg hb).symm.trans z
        by_cases hb : b = sysModules
        · have z'' := (if_pos hb).symm.trans z'
          cases z''
          subst hb
          exact ⟨sm2, om, sm2⟩
        · have z'' := (if_neg hb).symm.trans z'
          cases z''
/-- the goal that k_head leaves -/
theorem walk_ofG {l : PySem.W.OpenLaw} {k : Nat} {q : Program} {loose : List Str} {XP : (Str → Option Value) → Heap → Prop} {YP : World → Heap → Prop} {d : DefRec} {K : Params → PySem.W.Frag} {x : Str}
    (hn : l.most = some 63) (hdf : d.params.defaults = []) (hr : Room k callerA) (hin : importsNone q = true) (hY : ∀ (w : World) (h : Heap), YP w h → (K w.params).In h)
    (F : ∀ (w : World) (mg : Str → Option Value) (fa : Addr) (h : Heap), (K w.params).In h → h.Ns mainGlobals mg → mg d.name = some (.ref fa) → (K w.params).lookup sysModules = none ∧
      ∃ fd : FuncData, (∀ (s : Shared) (u : Value), BindsTo s fd ⟨[u], []⟩ [(x, u)]) ∧
        ∀ base : Heap, (K w.params).In base → base.Ns mainGlobals mg → FnG l.prog w (K w.params) mg base CX0 k fa fd [x] (spLaw (K w.params))) :
    PySem.W.WalkO q loose XP YP l.row.toRowW d [] (fun f vs => PySem.call f vs) := by
  refine Att.attach_callB hn hdf fun w s₀ s₁ mg mb fa o pm cd doc a vs ns G Y ho hd hcd hmg hobj hints hlen hbits hg => ?_
  have KX := hY w _ Y
  obtain ⟨hks, fd, hb, hF⟩ := F w mg fa _ KX G.T.g hmg
  obtain ⟨mm, hmm, _⟩ := (G.T.seer hin).mods
  exact law_callG KX G.T.g G.T.b G.T.builtins G.T.nolimit hg ⟨mm, hmm⟩ hks hobj hints hlen hbits hr hF hb
/-- a reading with an unknown -/
theorem pss_ex {X : Cx} {sts : List Stmt} {α : Type} {t : α → TS} (h : ∀ x, PSs X sts (t x)) : PSs X sts (fun D σ H => ∃ x, t x D σ H) := ⟨fun pins s σ H D I ⟨x, q⟩ => (h x).run pins s σ H D I q⟩
end Mp

/-! MpC: the rules with their side conditions filled, for printed terms. -/
namespace Mp
open PySem PySem.Spec L2
open PyProof.Rows hiding St
variable {J : Type}
section
variable {S : Js J} {B : Bs} {M : Nat → Bool} {W : WX} {X : Cx} {e a b c d o elt tg iter : Expr} {es es' rest ifs : List Expr} {pos p p1 p2 p3 spos py apos : Pos} {f fa fb fc fe fo : Ev J} {fr : Av J} {x y z : Str} {i k l : Nat} {kk : Nat}
theorem xV (i : Nat) (hM : M i = false := by rfl) (hN : X.N[i]? = some x := by rfl) (hv : Vis X.env.scope x := by first | exact Or.inl rfl | exact Or.inr (Or.inl rfl) | exact Or.inr (Or.inr rfl)) (hd : (x == ("__debug__" : Str)) = false := by decide) (hcd : (x == ("__classdict__" : Str)) = false := by decide) :
    PE X (.Name x pos) (rdE S B M W .clean (eVar i)) := by
  have h := e_var (S := S) (B := B) (M := M) (W := W) (pos := pos) hN hv hd hcd
  rw [hM] at h
  exact h
theorem xO (i : Nat) (hM : M i = true := by rfl) (hN : X.N[i]? = some x := by rfl) (hv : Vis X.env.scope x := by first | exact Or.inl rfl | exact Or.inr (Or.inl rfl) | exact Or.inr (Or.inr rfl)) (hd : (x == ("__debug__" : Str)) = false := by decide) (hcd : (x == ("__classdict__" : Str)) = false := by decide) :
    PE X (.Name x pos) (rdE S B M W .mix (eVar i)) := by
  have h := e_var (S := S) (B := B) (M := M) (W := W) (pos := pos) hN hv hd hcd
  rw [hM] at h
  exact h
theorem cI {i : Int} : PE X (.Constant (.int i) kk pos) (rdE S B M W .clean (eC (.int i))) := e_c pe_int fun _ => .int _
theorem cB {i : Bool} : PE X (.Constant (.bool i) kk pos) (rdE S B M W .clean (eC (.bl i))) := e_c pe_bl fun _ => .bl _
theorem toMixC (h : PE X e (rdE S B M W .clean f)) : PE X e (rdE S B M W .mix f) := toMix h
theorem toMixF (h : PE X e (rdE S B M W .fresh f)) : PE X e (rdE S B M W .mix f) := toMix h
/-! operators: C on frozen, X on seen arguments -/
variable (hK : X.K = S.K)
theorem bAddC (hK : X.K = S.K) (ha : PE X a (rdE S B M W .clean fa)) (hb : PE X b (rdE S B M W .clean fb)) : PE X (.BinOp a .Add b pos) (rdE S B M W .clean (eOp addD fa fb)) := e_bin (ci := true) op_addD (by rw [hK]; exact s_add) ha hb
theorem bSub (ha : PE X a (rdE S B M W .mix fa)) (hb : PE X b (rdE S B M W .mix fb)) : PE X (.BinOp a .Sub b pos) (rdE S B M W .clean (eOp subD fa fb)) := e_bin (ci := false) op_sub s_sub ha hb
theorem bMulC (ha : PE X a (rdE S B M W .clean fa)) (hb : PE X b (rdE S B M W .clean fb)) : PE X (.BinOp a .Mult b pos) (rdE S B M W .clean (eOp mulD fa fb)) := e_bin (ci := true) op_mulD s_mul ha hb
theorem bDiv (ha : PE X a (rdE S B M W .mix fa)) (hb : PE X b (rdE S B M W .mix fb)) : PE X (.BinOp a .FloorDiv b pos) (rdE S B M W .clean (eOp fdivD fa fb)) := e_bin (ci := false) op_fdivW s_fdiv ha hb
theorem bMod (ha : PE X a (rdE S B M W .mix fa)) (hb : PE X b (rdE S B M W .mix fb)) : PE X (.BinOp a .Mod b pos) (rdE S B M W .clean (eOp modD fa fb)) := e_bin (ci := false) op_mod s_mod ha hb
theorem bPow (ha : PE X a (rdE S B M W .mix fa)) (hb : PE X b (rdE S B M W .mix fb)) : PE X (.BinOp a .Pow b pos) (rdE S B M W .clean (eOp powD fa fb)) := e_bin (ci := false) op_pow s_pow ha hb
theorem uNeg (ha : PE X a (rdE S B M W .mix fa)) : PE X (.UnaryOp .USub a pos) (rdE S B M W .clean (eUn negD fa)) := e_un (ci := false) un_neg s_neg ha
/-! comparisons -/
def ltD : D → D → Option D := cmpD fun i j => decide (i < j)
def leD : D → D → Option D := cmpD fun i j => decide (i ≤ j)
def gtD : D → D → Option D := cmpD fun i j => decide (j < i)
def geD : D → D → Option D := cmpD fun i j => decide (j ≤ i)
theorem kEq (hK : X.K = S.K) (hu : X.A.units + 64 < cLine) : OpR X (compareOp .Eq) (rEqE S.K) := hK ▸ op_eqE hu
theorem kNe (hK : X.K = S.K) (hu : X.A.units + 64 < cLine) : OpR X (compareOp .NotEq) (rNeE S.K) := hK ▸ op_neE hu
theorem eCp {op : CmpOp} {r : R2} {φ : D → D → Option D} (hr : OpR X (compareOp op) r) (ho : OpS S r φ false .clean) (ha : PE X a (rdE S B M W .mix fa)) (hb : PE X b (rdE S B M W .mix fb)) (h : op ≠ .In := by decide) (h2 : op ≠ .NotIn := by decide) : PE X (.Compare a [op] [b] pos) (rdE S B M W .clean (eOp φ fa fb)) := e_cmp (ci := false) hr ho ha hb (nomark _ h h2)
theorem tCp {op : CmpOp} {r : R2} {φ : D → D → Option D} (hr : OpR X (compareOp op) r) (ho : OpS S r φ false .clean) (ha : PE X a (rdE S B M W .mix fa)) (hb : PE X b (rdE S B M W .mix fb)) (h : op ≠ .In := by decide) (h2 : op ≠ .NotIn := by decide) : PT X (.Compare a [op] [b] pos) (rdT S B M W (tBl (eOp φ fa fb))) := t_cmp (ci := false) hr ho ha hb (nomark _ h h2)
theorem eCh {op op' : CmpOp} {r r' : R2} {φ ψ : D → D → Option D} (hr : OpR X (compareOp op) r) (hr' : OpR X (compareOp op') r') (ho : OpS S r φ false .clean) (ho' : OpS S r' ψ false .clean) (ha : PE X a (rdE S B M W .mix fa)) (hb : PE X b (rdE S B M W .mix fb)) (hc : PE X c (rdE S B M W .mix fc)) (hm : lastMarks [op, op'] [b, c] = false := by rfl) :
    PE X (.Compare a [op, op'] [b, c] pos) (rdE S B M W .clean (eChain φ ψ fa fb fc)) := e_chain (ci := false) hr hr' ho ho' ha hb hc hm
theorem tTr (hK : X.K = S.K) (h : PE X a (rdE S B M W .mix fa)) (he : ∀ whole, isTrue a X.env whole = (do let v ← whole; standAt a.pos; holding [v] (truthy v)) := by intro _; rfl) : PT X a (rdT S B M W (tOf fa)) := t_truth hK h he
/-! items, parts -/
theorem ixC (hK : X.K = S.K) (ha : PE X a (rdE S B M W .clean fa)) (hb : PE X b (rdE S B M W .clean fb)) (hs : PlainIx b := by intro _ _; rfl) : PE X (.Subscript a b pos) (rdE S B M W .clean (eOp idxD fa fb)) := e_ix (ci := true) ix_seq (by rw [hK]; exact s_idx) ha hb hs
variable {lo hi : Option Expr} {fl fh : Pv J}
theorem slC (hK : X.K = S.K) (ha : PE X a (rdE S B M W .clean fa)) (hl : PO X lo (rdP S B M W fl)) (hh : PO X hi (rdP S B M W fh)) : PE X (.Subscript a (.Slice lo hi none p2) pos) (rdE S B M W .clean (eSl sliceD fa fl fh)) := e_slice (ci := true) sl_D (by rw [hK]; exact s_slice) ha hl hh
/-! argument lists, displays -/
theorem aN {k : Bool} : PA X [] (rdA S B M W k aNil) := a_nil
theorem aC (ha : PE X e (rdE S B M W .clean fa)) (hr : PA X es (rdA S B M W true fr)) (hs : starEach (e :: es) X.env = (false, eval e X.env) :: starEach es X.env := by rfl) : PA X (e :: es) (rdA S B M W true (aCons fa fr)) := a_cons (k := true) ha hr hs
theorem aX (ha : PE X e (rdE S B M W .mix fa)) (hr : PA X es (rdA S B M W false fr)) (hs : starEach (e :: es) X.env = (false, eval e X.env) :: starEach es X.env := by rfl) : PA X (e :: es) (rdA S B M W false (aCons fa fr)) := a_cons (k := false) ha hr hs
theorem tpC {x1 : Nat} (ha : PA X es (rdA S B M W true fr)) : PE X (.Tuple es x1 pos) (rdE S B M W .clean (eTup fr)) := e_tup (k := true) ha
theorem lsF (ha : PA X es (rdA S B M W true fr)) : PE X (.List es pos) (rdE S B M W .fresh (eLst fr)) := e_lst ha
/-! calls -/
theorem kB {id : String} {r : List V → Hp → VK → Prop} {φ : List D → Option D} {ci : Bool} {co : Cl} (hc : CallR X (.builtin id) r) (ho : CallS S r φ ci co) (hm : X.mg x = none) (hv : bootBuiltins x = some (.builtin id)) (ha : PA X (e :: es) (rdA S B M W ci fr)) (hg : Gl X x := by rfl) (hn : x ≠ "__name__" := by decide) (hdb : (x == ("__debug__" : Str)) = false := by decide)
    (he : starEach (e :: es) X.env = (false, eval e X.env) :: starEach es X.env := by rfl) (hpl : (backTo pos (starEach es X.env)).any (·.1) = false := by rfl) : PE X (.Call (.Name x p) (e :: es) [] pos) (rdE S B M W co (eB φ fr)) := e_callB hc ho hg hm hv ha hn hdb he hpl
theorem kT {T : String} {r : List V → Hp → VK → Prop} {φ : List D → Option D} {ci : Bool} {co : Cl} (hc : CallR X (.type T) r) (ho : CallS S r φ ci co) (hm : X.mg x = none) (hv : bootBuiltins x = some (.type T)) (ha : PA X (e :: es) (rdA S B M W ci fr)) (hg : Gl X x := by rfl) (hn : x ≠ "__name__" := by decide) (hdb : (x == ("__debug__" : Str)) = false := by decide)
    (he : starEach (e :: es) X.env = (false, eval e X.env) :: starEach es X.env := by rfl) (hpl : (backTo pos (starEach es X.env)).any (·.1) = false := by rfl) : PE X (.Call (.Name x p) (e :: es) [] pos) (rdE S B M W co (eB φ fr)) := e_callTy hc ho hg hm hv ha hn hdb he hpl
/-- a def that may be called: its promise on data -/
structure Cal (S : Js J) (P : Program) (w : World) (mg : Str → Option Value) (base : Heap) (k : Nat) (x : Str) (n : Nat) (φ : Fv J) : Prop where
  ex : ∃ fn fd ps, FnG P w S.K mg base (L2.CX P w) k fn fd ps (spF S n φ) ∧ mg x = some (.ref fn) ∧ PySem.W.keepIn S.K (.ref fn) = true ∧ Binds S.K fd ps []
  ln : ∀ ds j P E, φ ds j P E → ds.length = n
theorem callC {k n : Nat} {φ : Fv J} (hK : X.K = S.K) (tk : Takes X W) (C : Cal S X.prog X.w X.mg X.base k x n φ) (hr : Room k X.A) (hgd : X.A.guards = some []) (ha : PA X (e :: es) (rdA S B M W true fr)) (hg : Gl X x := by rfl) (hdb : (x == ("__debug__" : Str)) = false := by decide)
    (he : starEach (e :: es) X.env = (false, eval e X.env) :: starEach es X.env := by rfl) (hpl : (backTo pos (starEach es X.env)).any (·.1) = false := by rfl) : PE X (.Call (.Name x p) (e :: es) [] pos) (rdE S B M W .clean (eCall φ fr)) := by
  obtain ⟨fn, fd, ps, F, h1, h2, h3⟩ := C.ex
  exact e_call (hK ▸ F) tk hr hgd hg h1 (hK ▸ h2) (hK ▸ h3) C.ln ha hdb he hpl
/-! ranges -/
theorem lR1 (hml : X.mg "list" = none) (hm : X.mg "range" = none) (ha : PE X a (rdE S B M W .mix fa)) (hc : X.calm = true := by rfl) (hgl : Gl X "list" := by rfl) (hg : Gl X "range" := by rfl) (hs : starEach [a] X.env = [(false, eval a X.env)] := by rfl)
    (hs2 : starEach [.Call (.Name "range" p) [a] [] pos] X.env = [(false, eval (.Call (.Name "range" p) [a] [] pos) X.env)] := by rfl) : PE X (.Call (.Name "list" p1) [.Call (.Name "range" p) [a] [] pos] [] p2) (rdE S B M W .fresh (eLrg (iRng1 fa))) := e_lrg1 hc hgl hml hg hm ha hs hs2
theorem tR1 (hml : X.mg "tuple" = none) (hm : X.mg "range" = none) (ha : PE X a (rdE S B M W .mix fa)) (hc : X.calm = true := by rfl) (hgl : Gl X "tuple" := by rfl) (hg : Gl X "range" := by rfl) (hs : starEach [a] X.env = [(false, eval a X.env)] := by rfl)
    (hs2 : starEach [.Call (.Name "range" p) [a] [] pos] X.env = [(false, eval (.Call (.Name "range" p) [a] [] pos) X.env)] := by rfl) : PE X (.Call (.Name "tuple" p1) [.Call (.Name "range" p) [a] [] pos] [] p2) (rdE S B M W .clean (eTrg (iRng1 fa))) := e_trg1 hc hgl hml hg hm ha hs hs2
/-! what is walked over -/
theorem iSq (hK : X.K = S.K) (h : PE X e (rdE S B M W .clean f)) : PI X tg e (rdI S B M W true false (iSeq f)) := i_seq hK h
theorem iR1 (hm : X.mg "range" = none) (ha : PE X a (rdE S B M W .mix fa)) (hg : Gl X "range" := by rfl) (hs : starEach [a] X.env = [(false, eval a X.env)] := by rfl) : PI X tg (.Call (.Name "range" p) [a] [] pos) (rdI S B M W true false (iRng1 fa)) := i_rng1 hg hm ha hs
theorem iR2 (hm : X.mg "range" = none) (ha : PE X a (rdE S B M W .mix fa)) (hb : PE X b (rdE S B M W .mix fb)) (hg : Gl X "range" := by rfl) (hs : starEach [a, b] X.env = [(false, eval a X.env), (false, eval b X.env)] := by rfl) (hs2 : starEach [b] X.env = [(false, eval b X.env)] := by rfl) :
    PI X tg (.Call (.Name "range" p) [a, b] [] pos) (rdI S B M W true false (iRng2 fa fb)) := i_rng2 hg hm ha hb hs hs2
theorem iZp {elts : List Expr} {kt : Nat} {tpos : Pos} (hK : X.K = S.K) (hm : X.mg "zip" = none) (ha : PE X a (rdE S B M W .clean fa)) (hb : PE X b (rdE S B M W .clean fb)) (hg : Gl X "zip" := by rfl)
    (hs : starEach [a, b] X.env = (false, eval a X.env) :: starEach [b] X.env := by rfl) (hs2 : starEach [b] X.env = [(false, eval b X.env)] := by rfl) (hpl : (backTo pos (starEach [b] X.env)).any (·.1) = false := by rfl) :
    PI X (.Tuple elts kt tpos) (.Call (.Name "zip" p) [a, b] [] pos) (rdI S B M W true true (iZip fa fb)) := i_zip hK hg hm ha hb hs hs2 hpl
/-! targets -/
theorem gN (i : Nat) (hN : X.N.Nodup) (hM : M i = false := by rfl) (hi : X.N[i]? = some x := by rfl) (hx : Loc X.env.scope x := by first | exact Or.inl rfl | exact Or.inr rfl) (hf : X.fn x = true ∨ X.env.scope.names.lookup x = some .local := by first | exact Or.inl rfl | exact Or.inr rfl) : PG X (.Name x pos) (rdG S B M false [i] (gNm i)) := g_name hM hN hi hx hf
theorem gs0 : PGs X [] (rdGs S B M [] gsNil) := gs_nil
theorem gsC {ks ks' : List Nat} {γ : Gv} {γs : Gvs} (h1 : PG X e (rdG S B M false ks γ)) (h2 : PGs X es (rdGs S B M ks' γs)) (hs : (assignEach (e :: es) X.env).map (·.2) = assign e X.env :: (assignEach es X.env).map (·.2) := by rfl) : PGs X (e :: es) (rdGs S B M (ks ++ ks') (gsCons γ γs)) := gs_cons h1 h2 hs
theorem gsN_len : ∀ ds m m', gsNil ds m = some m' → ds.length = 0 := fun ds m m' h => by
  unfold gsNil at h
  split at h
  · rfl
  · cases h
theorem gsC_len {γ : Gv} {γs : Gvs} {n : Nat} (h : ∀ ds m m', γs ds m = some m' → ds.length = n) : ∀ ds m m', gsCons γ γs ds m = some m' → ds.length = n + 1 := fun ds m m' q => by
  unfold gsCons at q
  split at q
  · split at q
    · rw [List.length_cons, h _ _ _ q]
    · cases q
  · cases q
theorem gT {w : Bool} {kt n : Nat} {ks : List Nat} {γs : Gvs} (hK : X.K = S.K) (hl : ∀ ds m m', γs ds m = some m' → ds.length = n) (h : PGs X es (rdGs S B M ks γs)) (hc : X.calm = true := by rfl) (hn : (assignEach es X.env).length = n := by rfl) (hst : (assignEach es X.env).findIdx? (·.1) = none := by rfl) :
    PG X (.Tuple es kt pos) (rdG S B M w ks (gTp γs)) := g_tup hK hc h hn hst hl
/-! comprehensions -/
variable {scope : Scope} {fi : Iv J} {γ : Gv} {ft : Tv J} {ks : List Nat} {cc w : Bool}
theorem lcF (own : List (Str × Nat)) (hN : X.N.Nodup) (ok : BlkOk X.N X.env.scope scope own) (hi : PI X tg iter (rdI S B M W cc w fi))
    (hg : ∀ (s : Shared) (H : Hp) (C : Addr) (cl : List (Str × Addr)) (fp : List Addr), PG (X.blk s H scope (compEnvC scope cl C X.env) fp) tg (rdG S B M w ks γ)) (ht : ∀ (s : Shared) (H : Hp) (C : Addr) (cl : List (Str × Addr)) (fp : List Addr), PTs (X.blk s H scope (compEnvC scope cl C X.env) fp) ifs (rdT S B M W0 ft))
    (he : ∀ (s : Shared) (H : Hp) (C : Addr) (cl : List (Str × Addr)) (fp : List Addr), PE (X.blk s H scope (compEnvC scope cl C X.env) fp) elt (rdE S B M W0 .clean fe)) (hks : ∀ k ∈ ks, k ∈ own.map (·.2) := by decide) (hc : X.calm = true := by rfl) (hs : ∀ x, foldedSetIterable iter X.env x = pure x := by intro _; rfl) :
    PE X (.ListComp elt [⟨tg, iter, ifs, 0⟩] scope pos) (rdE S B M W .fresh (eComp (own.map (·.2)) fi γ ft fe)) := e_comp hc hN hi ok hks hg ht he hs
theorem ts0 : PTs X [] (rdT S B M W tYesD) := ts_nil
theorem ts1 {t : Tv J} (h : PT X c (rdT S B M W t)) : PTs X [c] (rdT S B M W t) := pts_one h
theorem setLc (i : Nat) (own : List (Str × Nat)) (hN : X.N.Nodup) (ok : BlkOk X.N X.env.scope scope own) (hi : PI X tg iter (rdI S B M W cc w fi))
    (hg : ∀ (s : Shared) (H : Hp) (C : Addr) (cl : List (Str × Addr)) (fp : List Addr), PG (X.blk s H scope (compEnvC scope cl C X.env) fp) tg (rdG S B M w ks γ)) (ht : ∀ (s : Shared) (H : Hp) (C : Addr) (cl : List (Str × Addr)) (fp : List Addr), PTs (X.blk s H scope (compEnvC scope cl C X.env) fp) ifs (rdT S B M W0 ft))
    (he : ∀ (s : Shared) (H : Hp) (C : Addr) (cl : List (Str × Addr)) (fp : List Addr), PE (X.blk s H scope (compEnvC scope cl C X.env) fp) elt (rdE S B M W0 .clean fe)) (hks : ∀ k ∈ ks, k ∈ own.map (·.2) := by decide) (hM : M i = false := by rfl) (hy : X.N[i]? = some y := by rfl) (hyl : X.env.scope.names.lookup y = some .local := by rfl)
    (hsw : swapsWith (.ListComp elt [⟨tg, iter, ifs, 0⟩] scope pos) (some (.Name y py)) spos.line X.env = pure true := by rfl) (hc : X.calm = true := by rfl) (hs : ∀ x, foldedSetIterable iter X.env x = pure x := by intro _; rfl) :
    PS X (.Assign [.Name y py] (.ListComp elt [⟨tg, iter, ifs, 0⟩] scope pos) spos) (rdS S B M W (sSet i (eComp (own.map (·.2)) fi γ ft fe))) := s_setLc hM hc hN hy hyl hsw hi ok hks hg ht he hs
end
/-! statements -/
section
variable {S : Js J} {B : Bs} {M : Nat → Bool} {W : WX} {X : Cx} {e ek a b c d o tg iter : Expr} {es : List Expr} {st : Stmt} {body body' rest : List Stmt} {pos p p1 p2 p3 pt pt2 px py pz np ap ap2 np2 : Pos} {f fa fb fc fe fk : Ev J} {fs fs' : Sv J} {tc : Tv J} {x y z : Str} {γ : Gv} {ks : List Nat} {kt k2 : Nat}
theorem zC (h1 : PS X st (rdS S B M W fs)) (h2 : PSs X rest (rdS S B M W fs')) : PSs X (st :: rest) (rdS S B M W (sSeq fs fs')) := s_cons h1 h2
theorem zSet (i : Nat) (hN : X.N.Nodup) (he : PE X e (rdE S B M W .clean fe)) (hM : M i = false := by rfl) (hi : X.N[i]? = some x := by rfl) (hx : Loc X.env.scope x := by first | exact Or.inl rfl | exact Or.inr rfl) (hs : swapsWith e (some (.Name x py)) pos.line X.env = pure false := by rfl) (hf : X.fn x = true ∨ X.env.scope.names.lookup x = some .local := by first | exact Or.inl rfl | exact Or.inr rfl) :
    PS X (.Assign [.Name x py] e pos) (rdS S B M W (sSet i fe)) := s_set hM hN hi hx he hs hf
theorem zSetO (i : Nat) (hN : X.N.Nodup) (he : PE X e (rdE S B M W .fresh fe)) (hM : M i = true := by rfl) (hi : X.N[i]? = some x := by rfl) (hx : Loc X.env.scope x := by first | exact Or.inl rfl | exact Or.inr rfl) (hs : swapsWith e (some (.Name x py)) pos.line X.env = pure false := by rfl) (hf : X.fn x = true ∨ X.env.scope.names.lookup x = some .local := by first | exact Or.inl rfl | exact Or.inr rfl) :
    PS X (.Assign [.Name x py] e pos) (rdS S B M W (sSet i fe)) := s_setO hM hN hi hx he hs hf
theorem zAsg (he : PE X e (rdE S B M W .clean fe)) (hg : PG X tg (rdG S B M false ks γ)) (hs : swapsWithSole [tg] e pos.line X.env = pure false := by rfl) (hw : swappedStores [tg] e X.env = pure none := by rfl) (h1 : (assignEach [tg] X.env).map (·.2) = [assign tg X.env] := by rfl) : PS X (.Assign [tg] e pos) (rdS S B M W (sAsg γ fe)) := s_asg he hg hs hw h1
theorem zAdd (i : Nat) (hN : X.N.Nodup) (he : PE X e (rdE S B M W .mix fe)) (hM : M i = false := by rfl) (hi : X.N[i]? = some x := by rfl) (hx : Loc X.env.scope x := by first | exact Or.inl rfl | exact Or.inr rfl) (hf : X.fn x = true ∨ X.env.scope.names.lookup x = some .local := by first | exact Or.inl rfl | exact Or.inr rfl) :
    PS X (.AugAssign (.Name x py) .Add e pos) (rdS S B M W (sAug addI i fe)) := s_aug (h := fun i j => i + j) (fun d e z q => by unfold addI at q; split at q <;> cases q; exact ⟨_, _, rfl, rfl, rfl⟩) ip_add hM hN hi hx he hf
theorem zPr2 (i k : Nat) (hN : X.N.Nodup) (ha : PE X a (rdE S B M W (clOf M i) fa)) (hb : PE X b (rdE S B M W (clOf M k) fb)) (hc : X.calm = true := by rfl) (hi : X.N[i]? = some x := by rfl) (hk : X.N[k]? = some y := by rfl) (hik : i ≠ k := by decide) (hx : X.env.scope.names.lookup x = some .local := by rfl) (hy : X.env.scope.names.lookup y = some .local := by rfl)
    (hs1 : starEach [a, b] X.env = (false, eval a X.env) :: starEach [b] X.env := by rfl) (hs2 : starEach [b] X.env = [(false, eval b X.env)] := by rfl)
    (hw : swappedStores [.Tuple [.Name x px, .Name y py] kt pt] (.Tuple [a, b] k2 pt2) X.env = pure (some [x, y]) := by rfl) (hs : swapsWithSole [.Tuple [.Name x px, .Name y py] kt pt] (.Tuple [a, b] k2 pt2) pos.line X.env = pure false := by rfl) :
    PS X (.Assign [.Tuple [.Name x px, .Name y py] kt pt] (.Tuple [a, b] k2 pt2) pos) (rdS S B M W (sPr2 i k fa fb)) := s_pr2 hc hN hi hk hik hx hy ha hb hs1 hs2 hw hs
theorem zPr3 (i k l : Nat) (hN : X.N.Nodup) (ha : PE X a (rdE S B M W (clOf M i) fa)) (hb : PE X b (rdE S B M W (clOf M k) fb)) (hcc : PE X c (rdE S B M W (clOf M l) fc)) (hc : X.calm = true := by rfl) (hi : X.N[i]? = some x := by rfl) (hk : X.N[k]? = some y := by rfl) (hl : X.N[l]? = some z := by rfl) (hik : i ≠ k := by decide) (hil : i ≠ l := by decide) (hkl : k ≠ l := by decide) (hx : X.env.scope.names.lookup x = some .local := by rfl) (hy : X.env.scope.names.lookup y = some .local := by rfl) (hz : X.env.scope.names.lookup z = some .local := by rfl)
    (hs1 : starEach [a, b, c] X.env = (false, eval a X.env) :: starEach [b, c] X.env := by rfl) (hs2 : starEach [b, c] X.env = (false, eval b X.env) :: starEach [c] X.env := by rfl) (hs3 : starEach [c] X.env = [(false, eval c X.env)] := by rfl)
    (hw : swappedStores [.Tuple [.Name x px, .Name y py, .Name z pz] kt pt] (.Tuple [a, b, c] k2 pt2) X.env = pure (some [x, y, z]) := by rfl) (hs : swapsWithSole [.Tuple [.Name x px, .Name y py, .Name z pz] kt pt] (.Tuple [a, b, c] k2 pt2) pos.line X.env = pure false := by rfl) :
    PS X (.Assign [.Tuple [.Name x px, .Name y py, .Name z pz] kt pt] (.Tuple [a, b, c] k2 pt2) pos) (rdS S B M W (sPr3 i k l fa fb fc)) := s_pr3 hc hN hi hk hl hik hil hkl hx hy hz ha hb hcc hs1 hs2 hs3 hw hs
theorem clO {i : Nat} (h : PE X e (rdE S B M W .fresh fe)) (hM : M i = true := by rfl) : PE X e (rdE S B M W (clOf M i) fe) := by unfold clOf; rw [hM]; exact h
theorem clC {i : Nat} (h : PE X e (rdE S B M W .clean fe)) (hM : M i = false := by rfl) : PE X e (rdE S B M W (clOf M i) fe) := by unfold clOf; rw [hM]; exact h
theorem mtN (i : Nat) (n : X.N[i]? = some x := by rfl) (v : Vis X.env.scope x := by first | exact Or.inl rfl | exact Or.inr (Or.inl rfl) | exact Or.inr (Or.inr rfl)) (d : (x == ("__debug__" : Str)) = false := by decide) (c : (x == ("__classdict__" : Str)) = false := by decide) : MtN X i x := ⟨n, v, d, c⟩
theorem zApp (i : Nat) (he : PE X e (rdE S B M W .clean fe)) (hx : MtN X i x := by exact mtN _) (hM : M i = true := by rfl) (hl : (ap.endLine == p.line) = true := by rfl) (hs : starEach [e] X.env = [(false, eval e X.env)] := by rfl)
    (hb : attributeBase (.Name x np) "append" X.env (eval (.Name x np) X.env) = eval (.Name x np) X.env := by rfl) (hf : ((backTo p (starEach [e] X.env)).all (fun x => !x.1) && (backToKw p (keywordEach [] X.env)).all (fun x => x.1.isSome)
      && decide (([e] : List Expr).length + ([] : List Keyword).length + (if ([] : List Keyword).isEmpty then 0 else 1) < 30)) = true := by rfl) (hsw : swapsWith (.Call (.Attribute (.Name x np) "append" ap) [e] [] p) none pos.line X.env = pure false := by rfl) :
    PS X (.Expr (.Call (.Attribute (.Name x np) "append" ap) [e] [] p) pos) (rdS S B M W (sApp i fe)) := s_app hM hx he hl hs hb hf hsw
theorem zExt (i : Nat) (he : PE X e (rdE S B M W .clean fe)) (hx : MtN X i x := by exact mtN _) (hM : M i = true := by rfl) (hl : (ap.endLine == p.line) = true := by rfl) (hs : starEach [e] X.env = [(false, eval e X.env)] := by rfl)
    (hb : attributeBase (.Name x np) "extend" X.env (eval (.Name x np) X.env) = eval (.Name x np) X.env := by rfl) (hf : ((backTo p (starEach [e] X.env)).all (fun x => !x.1) && (backToKw p (keywordEach [] X.env)).all (fun x => x.1.isSome)
      && decide (([e] : List Expr).length + ([] : List Keyword).length + (if ([] : List Keyword).isEmpty then 0 else 1) < 30)) = true := by rfl) (hsw : swapsWith (.Call (.Attribute (.Name x np) "extend" ap) [e] [] p) none pos.line X.env = pure false := by rfl) :
    PS X (.Expr (.Call (.Attribute (.Name x np) "extend" ap) [e] [] p) pos) (rdS S B M W (sExt i fe)) := s_ext hM hx he hl hs hb hf hsw
variable {fb2 : Sv J} {fi : Iv J} {w : Bool}
theorem zWhile (hc : PT X c (rdT S B M W tc)) (hb : PSs X body (rdS S B M W fs)) (hp : PassesOwn (model X.prog X.w) X.A X.env X.xe := by exact PassesOwn.never) : PS X (.While c body [] pos) (rdS S B M W (sWhile tc fs)) := s_while hp hc hb
theorem zFor (hi : PI X tg iter (rdI S B M W true w fi)) (hg : PG X tg (rdG S B M w ks γ)) (hb : PSs X body (rdS S B M W fs)) (hp : PassesOwn (model X.prog X.w) X.A X.env X.xe := by exact PassesOwn.never) (hc : X.calm = true := by rfl) (hs : ∀ x, foldedSetIterable iter X.env x = pure x := by intro _; rfl) :
    PS X (.For tg iter body [] pos) (rdS S B M W (sFor fi γ fs)) := s_for hp hc hi hg hb hs
end
end Mp

/-! MpK: the built-in functions, for printed terms. -/
namespace Mp
open PySem PySem.Spec L2
open PyProof.Rows hiding St
variable {J : Type}
theorem bt_len : bootBuiltins "len" = some (.builtin "len") := by decide +kernel
theorem bt_sum : bootBuiltins "sum" = some (.builtin "sum") := by decide +kernel
theorem bt_abs : bootBuiltins "abs" = some (.builtin "abs") := by decide +kernel
theorem bt_min : bootBuiltins "min" = some (.builtin "min") := by decide +kernel
theorem bt_repr : bootBuiltins "repr" = some (.builtin "repr") := by decide +kernel
theorem bt_sorted : bootBuiltins "sorted" = some (.builtin "sorted") := by decide +kernel
theorem bt_tuple : bootBuiltins "tuple" = some (.type "tuple") := by decide +kernel
theorem bt_int : bootBuiltins "int" = some (.type "int") := by decide +kernel
section
variable {S : Js J} {B : Bs} {M : Nat → Bool} {W : WX} {X : Cx} {e : Expr} {es : List Expr} {pos p : Pos} {fr : Av J} {ci : Bool}
theorem kLen (hK : X.K = S.K) (hm : X.mg "len" = none) (ha : PA X (e :: es) (rdA S B M W ci fr)) (hg : Gl X "len" := by rfl) (he : starEach (e :: es) X.env = (false, eval e X.env) :: starEach es X.env := by rfl) (hpl : (backTo pos (starEach es X.env)).any (·.1) = false := by rfl) :
    PE X (.Call (.Name "len" p) (e :: es) [] pos) (rdE S B M W .clean (eB lenB fr)) := kB cr_lenD (by rw [hK]; exact s_len) hm bt_len ha hg (by decide) (by decide) he hpl
theorem kSum (hK : X.K = S.K) (hm : X.mg "sum" = none) (ha : PA X (e :: es) (rdA S B M W ci fr)) (hg : Gl X "sum" := by rfl) (hc : X.calm = true := by rfl) (he : starEach (e :: es) X.env = (false, eval e X.env) :: starEach es X.env := by rfl) (hpl : (backTo pos (starEach es X.env)).any (·.1) = false := by rfl) :
    PE X (.Call (.Name "sum" p) (e :: es) [] pos) (rdE S B M W .clean (eB sumB fr)) := kB (cr_sumD hc) (by rw [hK]; exact s_sum) hm bt_sum ha hg (by decide) (by decide) he hpl
theorem kMin (hK : X.K = S.K) (hm : X.mg "min" = none) (ha : PA X (e :: es) (rdA S B M W ci fr)) (hg : Gl X "min" := by rfl) (hc : X.calm = true := by rfl) (he : starEach (e :: es) X.env = (false, eval e X.env) :: starEach es X.env := by rfl) (hpl : (backTo pos (starEach es X.env)).any (·.1) = false := by rfl) :
    PE X (.Call (.Name "min" p) (e :: es) [] pos) (rdE S B M W .clean (eB minB fr)) := kB (cr_minD hc) (by rw [hK]; exact s_min) hm bt_min ha hg (by decide) (by decide) he hpl
theorem kRepr (hK : X.K = S.K) (hgd : X.A.guards = some []) (hu : X.A.units + 64 < cLine) (hm : X.mg "repr" = none) (ha : PA X (e :: es) (rdA S B M W ci fr)) (hg : Gl X "repr" := by rfl) (he : starEach (e :: es) X.env = (false, eval e X.env) :: starEach es X.env := by rfl) (hpl : (backTo pos (starEach es X.env)).any (·.1) = false := by rfl) :
    PE X (.Call (.Name "repr" p) (e :: es) [] pos) (rdE S B M W .clean (eB reprB fr)) := kB (cr_repr hK hgd hu) s_repr hm bt_repr ha hg (by decide) (by decide) he hpl
theorem kTupC (hK : X.K = S.K) (hm : X.mg "tuple" = none) (ha : PA X (e :: es) (rdA S B M W true fr)) (hg : Gl X "tuple" := by rfl) (he : starEach (e :: es) X.env = (false, eval e X.env) :: starEach es X.env := by rfl) (hpl : (backTo pos (starEach es X.env)).any (·.1) = false := by rfl) :
    PE X (.Call (.Name "tuple" p) (e :: es) [] pos) (rdE S B M W .clean (eB tupleB fr)) := kT (ci := true) call_tupleF (by rw [hK]; exact s_tuple) hm bt_tuple ha hg (by decide) (by decide) he hpl
theorem kInt (hm : X.mg "int" = none) (ha : PA X (e :: es) (rdA S B M W ci fr)) (hg : Gl X "int" := by rfl) (he : starEach (e :: es) X.env = (false, eval e X.env) :: starEach es X.env := by rfl) (hpl : (backTo pos (starEach es X.env)).any (·.1) = false := by rfl) :
    PE X (.Call (.Name "int" p) (e :: es) [] pos) (rdE S B M W .clean (eB intB fr)) := kT call_int1 s_int hm bt_int ha hg (by decide) (by decide) he hpl
end
end Mp

/-! MpP: isinstance, in, constants of the module, items and parts of an owned list, pop. -/
namespace Mp
open PySem PySem.Spec L2
open PyProof.Rows hiding St
variable {J : Type}
theorem bt_bool : bootBuiltins "bool" = some (.type "bool") := by decide +kernel
theorem hv_of {A : Around} {k : Nat} (hr : Room k A) : A.units + 65 < cLine := by have := hr.un; omega
/-! ### isinstance(e, T), T a built-in type -/
def tyD : D → Option String
  | .non => some "NoneType"
  | .bl _ => some "bool"
  | .int _ => some "int"
  | .str _ => some "str"
  | .tup _ => some "tuple"
  | .lst _ => some "list"
  | .dct _ => some "dict"
  | _ => none
def isiD (T : String) (d : D) : Option D := match tyD d with
  | some t => match kitB t T with | some b => some (.bl b) | none => none
  | none => none
section
variable {S : Js J} {B : Bs} {M : Nat → Bool} {W : WX} {X : Cx} {e a b : Expr} {pos p p2 : Pos} {fe fa fb : Ev J} {x : Str}
theorem ty_of {G H : Hp} {d : D} {v : V} {t : String} (h : Rp S G d v) (gh : Same G H) (e : tyD d = some t) : TyX S.K H v (.type t) := by
  cases h with
  | non => cases e; exact .base .non
  | bl b => cases e; exact .base (.bl b)
  | int i => cases e; exact .base (.int i)
  | str y => cases e; exact .base (.str y)
  | tup h _ =>
    cases e
    rcases h with ⟨o, h, _⟩ | ⟨o, its, n, h1, h2, _⟩
    · exact .fTuple (gh _ _ h)
    · exact .kTuple h1 h2
  | lst h _ => cases e; exact .base (.lst (gh _ _ h))
  | dct h _ _ => cases e; exact .base (.dK (gh _ _ h))
  | jar => cases e
  | obj _ => cases e
  | ins _ _ _ => cases e
  | dtp _ _ _ => cases e
  | exc0 _ => cases e
  | exc1 _ _ _ => cases e
theorem e_isi {T : String} (hK : X.K = S.K) (hmi : X.mg "isinstance" = none) (hm : X.mg x = none) (hv : bootBuiltins x = some (.type T)) (he : PE X e (rdE S B M W .mix fe)) (hgi : Gl X "isinstance" := by rfl) (hg : Gl X x := by rfl) (hn : x ≠ "__name__" := by decide) (hd : (x == ("__debug__" : Str)) = false := by decide)
    (hs : starEach [e, .Name x p2] X.env = (false, eval e X.env) :: starEach [.Name x p2] X.env := by rfl) (hpl : (backTo pos (starEach [.Name x p2] X.env)).any (·.1) = false := by rfl) :
    PE X (.Call (.Name "isinstance" p) [e, .Name x p2] [] pos) (rdE S B M W .clean (eUn (isiD T) fe)) :=
  PE.imp (pe_callB call_isi hgi hmi (by decide +kernel) (pa_cons he (pa_cons (pe_bltn (v := .ty T) hg hm hv rfl hn hd) pa_nil rfl) hs) (by decide) (by decide) hs hpl) fun r H Q ⟨g, m, j, P, E, ok, hf, q, xo⟩ => by
    refine ⟨g, m, j, _, E, ok, hf, fun d1 j1 g1 v H1 hh l1 ok1 w => ?_, xo⟩
    obtain ⟨z, h2, p⟩ := hh
    unfold isiD at h2
    split at h2
    · rename_i t ht
      split at h2
      · rename_i bb hb
        cases h2
        exact ⟨v, .ty T, .type t, .type T, bb, rfl, .ty T, by rw [hK]; exact ty_of w ok1.b.gh ht, kit_ty hb, q _ _ g1 _ H1 p l1 ok1 (.bl _)⟩
      · cases h2
    · cases h2
/-! ### x in xs, a list or a tuple of plain data -/
def inB (x y : D) : Option Bool := match py x, py y with
  | some p, some (.list ds) => if SeqAt.shaped p && SeqAt.shaped (.list ds) then some (ds.any fun z => PyData.eqv z p) else none
  | some p, some (.tuple ds) => if SeqAt.shaped p && SeqAt.shaped (.tuple ds) then some (ds.any fun z => PyData.eqv z p) else none
  | _, _ => none
def inD (x y : D) : Option D := match inB x y with | some b => some (.bl b) | none => none
def ninD (x y : D) : Option D := match inB x y with | some b => some (.bl (!b)) | none => none
def rInTu (K : PySem.W.Frag) : R2 := fun x y H Q => ∃ d ds, Dp K H x d ∧ Dp K H y (.tuple ds) ∧ SeqAt.shaped d = true ∧ SeqAt.shaped (.tuple ds) = true ∧ Q (.bl (ds.any fun z => PyData.eqv z d)) H
def rNotInTu (K : PySem.W.Frag) : R2 := fun x y H Q => ∃ d ds, Dp K H x d ∧ Dp K H y (.tuple ds) ∧ SeqAt.shaped d = true ∧ SeqAt.shaped (.tuple ds) = true ∧ Q (.bl (!ds.any fun z => PyData.eqv z d)) H
theorem op_inTu (hu : X.A.units + 65 < cLine) : OpR X (compareOp .In) (rInTu X.K) := by
  intro pins s σ H x y v u Q I rx ry h
  obtain ⟨d, ds, hd, he, sd, se, q⟩ := h
  obtain ⟨as, a1⟩ := Dp.reads I d x v hd rx
  obtain ⟨bs, a2⟩ := Dp.reads I (.tuple ds) y u he ry
  exact SeqAt.in_tuple_reads a2 a1 (SeqAt.canLay_of_shaped se) (SeqAt.canLay_of_shaped sd) (room_in_shaped sd hu) ⟨.bl _, H, I, rfl, q⟩
theorem op_notInTu (hu : X.A.units + 65 < cLine) : OpR X (compareOp .NotIn) (rNotInTu X.K) := by
  intro pins s σ H x y v u Q I rx ry h
  obtain ⟨d, ds, hd, he, sd, se, q⟩ := h
  obtain ⟨as, a1⟩ := Dp.reads I d x v hd rx
  obtain ⟨bs, a2⟩ := Dp.reads I (.tuple ds) y u he ry
  exact SeqAt.notIn_tuple_reads a2 a1 (SeqAt.canLay_of_shaped se) (SeqAt.canLay_of_shaped sd) (room_in_shaped sd hu) ⟨.bl _, H, I, rfl, q⟩
theorem inB_cases {F : Hp} {d1 d2 : D} {v1 v2 : V} {b : Bool} (h1 : Rp S F d1 v1) (h2 : Rp S F d2 v2) (e : inB d1 d2 = some b) :
    (∃ p ds, Dp S.K F v1 p ∧ Dp S.K F v2 (.list ds) ∧ SeqAt.shaped p = true ∧ SeqAt.shaped (.list ds) = true ∧ (ds.any fun z => PyData.eqv z p) = b) ∨
    ∃ p ds, Dp S.K F v1 p ∧ Dp S.K F v2 (.tuple ds) ∧ SeqAt.shaped p = true ∧ SeqAt.shaped (.tuple ds) = true ∧ (ds.any fun z => PyData.eqv z p) = b := by
  unfold inB at e
  split at e
  · split at e
    · rename_i p ds hp hq hs
      rw [Bool.and_eq_true] at hs
      cases e
      exact .inl ⟨p, ds, dp_of h1 hp (noDict hs.1), dp_of h2 hq (noDict hs.2), hs.1, hs.2, rfl⟩
    · cases e
  · split at e
    · rename_i p ds hp hq hs
      rw [Bool.and_eq_true] at hs
      cases e
      exact .inr ⟨p, ds, dp_of h1 hp (noDict hs.1), dp_of h2 hq (noDict hs.2), hs.1, hs.2, rfl⟩
    · cases e
  · cases e
theorem s_in {ci : Bool} : OpS S (fun x y H Q => rInD S.K x y H Q ∨ rInTu S.K x y H Q) inD ci .clean := by
  intro B g H j d1 d2 d v1 v2 Q ok h1 h2 e q
  unfold inD at e
  split at e
  · rename_i b he
    cases e
    rcases inB_cases h1 h2 he with ⟨p, ds, c1, c2, c3, c4, c5⟩ | ⟨p, ds, c1, c2, c3, c4, c5⟩
    · exact .inl ⟨p, ds, Dp_mono (ok.sub ci) c1, Dp_mono (ok.sub ci) c2, c3, c4, by rw [c5]; exact ans (B := B) ok q fun _ => .bl _⟩
    · exact .inr ⟨p, ds, Dp_mono (ok.sub ci) c1, Dp_mono (ok.sub ci) c2, c3, c4, by rw [c5]; exact ans (B := B) ok q fun _ => .bl _⟩
  · cases e
theorem s_notIn {ci : Bool} : OpS S (fun x y H Q => rNotInD S.K x y H Q ∨ rNotInTu S.K x y H Q) ninD ci .clean := by
  intro B g H j d1 d2 d v1 v2 Q ok h1 h2 e q
  unfold ninD at e
  split at e
  · rename_i b he
    cases e
    rcases inB_cases h1 h2 he with ⟨p, ds, c1, c2, c3, c4, c5⟩ | ⟨p, ds, c1, c2, c3, c4, c5⟩
    · exact .inl ⟨p, ds, Dp_mono (ok.sub ci) c1, Dp_mono (ok.sub ci) c2, c3, c4, by rw [c5]; exact ans (B := B) ok q fun _ => .bl _⟩
    · exact .inr ⟨p, ds, Dp_mono (ok.sub ci) c1, Dp_mono (ok.sub ci) c2, c3, c4, by rw [c5]; exact ans (B := B) ok q fun _ => .bl _⟩
  · cases e
theorem kIn (hK : X.K = S.K) (hu : X.A.units + 65 < cLine) : OpR X (compareOp .In) (fun x y H Q => rInD S.K x y H Q ∨ rInTu S.K x y H Q) := hK ▸ (op_inD hu).or (op_inTu hu)
theorem kNotIn (hK : X.K = S.K) (hu : X.A.units + 65 < cLine) : OpR X (compareOp .NotIn) (fun x y H Q => rNotInD S.K x y H Q ∨ rNotInTu S.K x y H Q) := hK ▸ (op_notInD hu).or (op_notInTu hu)
theorem tIn {op : CmpOp} {r : R2} {φ : D → D → Option D} (hr : OpR X (compareOp op) r) (ho : OpS S r φ false .clean) (ha : PE X a (rdE S B M W .mix fa)) (hb : PE X b (rdE S B M W .mix fb)) (h : behindInMarks op b = false := by rfl) : PT X (.Compare a [op] [b] pos) (rdT S B M W (tBl (eOp φ fa fb))) := t_cmp (ci := false) hr ho ha hb h
/-! ### constants of the module -/
/-! ### items and parts of an owned list: they are frozen -/
/-- the name i as a frozen value, where it is an owned list: not a copy, so for reading parts alone -/
theorem ixO {i : Nat} {np : Pos} (hK : X.K = S.K) (hb : PE X b (rdE S B M W .mix fb)) (hx : MtN X i x := by exact mtN _) (hM : M i = true := by rfl) (hs : PlainIx b := by intro _ _; rfl) : PE X (.Subscript (.Name x np) b pos) (rdE S B M W .clean (eOp idxD (eVar i) fb)) :=
  PE.imp (pe_ix ix_list hx.pe hb hs) fun R H Q ⟨g, m, j, P, E, ok, ⟨d0, h0, hf⟩, q, xo⟩ => by
    obtain ⟨a, hr, ho⟩ := ok.s.ow i _ h0 hM
    refine ⟨_, hr, g, m, j, _, E, ok, hf, fun y j2 g1 v H1 hh l1 ok1 w => ?_, xo⟩
    obtain ⟨z, h3, p⟩ := hh
    unfold idxD at h3
    split at h3
    · rename_i xs k
      obtain ⟨_, vs, hG, t⟩ := own_lst (ho.le l1)
      obtain ⟨v', e1, e2⟩ := t.atI h3
      exact ⟨a, vs, k, v', rfl, int_of w, .of (ok1.b.gh _ _ hG), e1, q _ _ g1 v' H1 p l1 ok1 e2⟩
    · obtain ⟨_, ⟨_, _, e, _⟩ | ⟨_, _, e, _⟩ | ⟨_, _, e, _⟩⟩ := ho <;> cases e
    · obtain ⟨_, ⟨_, _, e, _⟩ | ⟨_, _, e, _⟩ | ⟨_, _, e, _⟩⟩ := ho <;> cases e
    · cases h3
/-- tuple(xs), list(xs) of an owned list -/
theorem tuO {i : Nat} {np : Pos} (hm : X.mg "tuple" = none) (hx : MtN X i x := by exact mtN _) (hM : M i = true := by rfl) (hg : Gl X "tuple" := by rfl) (he : starEach [.Name x np] X.env = [(false, eval (.Name x np) X.env)] := by rfl) :
    PE X (.Call (.Name "tuple" p) [.Name x np] [] pos) (rdE S B M W .clean (eB tupleB (aCons (eVar i) aNil))) :=
  PE.imp (pe_callTy call_tupleF hg hm bt_tuple (pa_cons hx.pe pa_nil he) (by decide) (by decide) he rfl) fun R H Q ⟨g, m, j, P, E, ok, ⟨d0, h0, z, hz, pz⟩, q, xo⟩ => by
    obtain ⟨a, hr, ho⟩ := ok.s.ow i _ h0 hM
    obtain ⟨hF, ⟨ds, vs, rfl, e, t⟩ | ⟨kds, kvs, rfl, _⟩ | ⟨kds, kvs, rfl, _⟩⟩ := ho
    · cases hz
      refine ⟨_, hr, a, vs, rfl, .inl ⟨.of (ok.b.gh _ _ e), fun p o hp hd => ?_⟩⟩
      obtain ⟨n1, n2, n3, n4⟩ := ok.b.hn hp
      exact q _ _ (g.frz p (.frz o (.tup vs))) _ _ pz (Le.frz ok.b.fg n2) ⟨ok.b.frz _ hp, ok.s.le (Le.frz ok.b.fg n2)⟩ (Rp.tup (.inl ⟨o, upd_same, hd⟩) (t.mono (same_new n1)))
    · cases hz
    · cases hz
end
/-! ### γ = i.pop(e) -/
def sPopAt (i : Nat) (fe : Ev J) (γ : Gv) (m : Sd) (j : J) (P : Fl → Sd → J → Prop) (E : XP J) : Prop :=
  ∃ ys, m[i]? = some (some (.lst ys)) ∧ fe m j (fun d j1 => ∃ n y m1, d = .int n ∧ 0 ≤ n ∧ n < (ys.length : Int) ∧ ys.length ≤ LINE ∧ ys[n.toNat]? = some y ∧ γ y (m.set i (some (.lst (ys.eraseIdx n.toNat)))) = some m1 ∧ P .next m1 j1) E
instance {i : Nat} {fe : Ev J} {γ : Gv} [h1 : MoE fe] : MoS (sPopAt i fe γ) := ⟨fun ⟨ys, e, h⟩ q x => ⟨ys, e, h1.mo h (fun _ _ ⟨n, y, m1, a1, a2, a3, a4, a5, a6, p⟩ => ⟨n, y, m1, a1, a2, a3, a4, a5, a6, q _ _ _ p⟩) x⟩⟩
section
variable {S : Js J} {B : Bs} {M : Nat → Bool} {W : WX} {X : Cx} {e tg : Expr} {pos p np ap : Pos} {fe : Ev J} {x : Str} {γ : Gv} {ks : List Nat}
end
section
@[simp] theorem isi_int {i : Int} : isiD "int" (.int i) = some (.bl true) := rfl
@[simp] theorem isi_bool {i : Int} : isiD "bool" (.int i) = some (.bl false) := rfl
@[simp] theorem isi_tup {xs : List D} : isiD "tuple" (.tup xs) = some (.bl true) := rfl
end
end Mp

/-! MpT: sorted, max and min of a tuple of ints. -/
namespace SrtO
open PySem PySem.Spec PyProof.Rows
section
variable {prog : Program} {w : World} {A : Around} {E : Value → Shared → Prop} {s : Shared}
/-- a tuple's items, gathered into a list -/
theorem gather_tup {l : Addr} {vs : List Value} {Q : List Value → Shared → Prop} (hl : IsTup s.heap l vs.toArray) (hsz : vs.length ≤ sizeLine)
    (h : Q vs { s with heap := (s.heap.push (seqObj "list" #[] 0)).update s.heap.objs.size (Obj.mapSeq (· ++ vs.toArray)) }) : wpAny (model prog w) A (collect (.ref l)) Q E s := by
  obtain ⟨o, hob, hcl, n, hda⟩ := id hl
  unfold collect
  refine wpAny_bind (wpAny_runValue (codeAny_builtin entry_proto_collect' ?_))
  show wpAny _ _ (do again (.builtin "list.__iadd__" ⟨[← newList [], .ref l], []⟩)) _ _ s
  refine wpAny_bind (wpAny_newList (wpAny_pure ⟨Code.quiet_builtin _ (by decide +kernel), codeAny_builtin entry_list_iadd' ?_⟩))
  show wpAny _ _ (Builtin.List.listExtendWith (.ref s.heap.objs.size) (.ref l) (.ref s.heap.objs.size)) _ _ { s with heap := s.heap.push (seqObj "list" #[] 0) }
  unfold Builtin.List.listExtendWith
  have hob' : (s.heap.push (seqObj "list" #[] 0)).get? l = some o := Heap.get?_push_of_some _ hob
  refine wpAny_bind (wpAny_typeOf (T := "tuple") ⟨o, hob', hcl⟩ ?_)
  have ht : (Value.type "tuple" == Value.type "tuple") = true := by rfl
  rw [if_pos (by rw [ht]; simp)]
  refine wpAny_bind (listItems_at hob' hda ?_)
  refine wpAny_bind (listItems_at (xs := #[]) (n := 0) (Heap.get?_push_size _ rfl) rfl ?_)
  rw [if_neg (by simp)]
  refine wpAny_bind (listUpdate_at (xs := #[]) (n := 0) (Heap.get?_push_size _ rfl) rfl ?_ (Nat.zero_le _) (by show (#[] ++ vs.toArray).size ≤ sizeLine + 1; simp only [Array.size_append, List.size_toArray, List.length_nil]; omega))
  refine wpAny_pure ?_
  show wpAny (model prog w) A (do
      let ob ← load s.heap.objs.size
      match ob.data with
      | .seq xs _ => pure xs.toList
      | _ => unsupported "internal:collect") Q E { s with heap := (s.heap.push (seqObj "list" #[] 0)).update s.heap.objs.size (Obj.mapSeq (· ++ vs.toArray)) }
  refine wpAny_bind (wpAny_load (get?_update_seq (Heap.get?_push_size _ rfl) _) ?_)
  show wpAny _ _ (pure ((#[] : Array Value) ++ vs.toArray).toList) Q E _
  rw [show ((#[] : Array Value) ++ vs.toArray).toList = vs by simp]
  exact wpAny_pure h
theorem sorted_ordTup {l : Addr} {vs : List Value} {ltv : Value → Value → Bool} {Q : Value → Shared → Prop} (O : Swo ltv) (hl : IsTup s.heap l vs.toArray) (hz : vs.length ≤ sizeLine)
    (hS : 2 ≤ vs.length → ∀ (h₁ : Heap) (a : Addr), h₁.get? a = some (seqObj "list" vs.toArray 0) → (∀ b o, s.heap.get? b = some o → b ≠ a ∧ h₁.get? b = some o) → SortableO prog w A.in1.in1 { s with heap := h₁ } a vs ltv)
    (h : ∀ out : List Value, Srtd ltv out → Stb ltv out vs → Q (.ref (s.heap.objs.size + 1)) { s with heap := sortedAll s.heap vs out.toArray }) :
    wpAny (model prog w) A (call (.builtin "sorted") [.ref l]) Q E s := by
  refine Calls.call_function_entry kind_sorted plain_sorted entry_sorted (args_sorted1 _) ?_
  unfold Builtin.«sorted»
  refine wpAny_bind (m := checkCount "sorted" 1 1 _) (wpAny_pure ?_)
  refine wpAny_bind (gather_tup hl hz ?_)
  refine wpAny_bind (wpAny_newList ?_ hz)
  generalize hP : (s.heap.push (seqObj "list" #[] 0)).update s.heap.objs.size (Obj.mapSeq (· ++ vs.toArray)) = P at *
  have hsz : P.objs.size = s.heap.objs.size + 1 := by rw [← hP, Heap.size_update, size_push']
  have hnew : (P.push (seqObj "list" vs.toArray 0)).get? (s.heap.objs.size + 1) = some (seqObj "list" vs.toArray 0) := by
    rw [← hsz]; exact Heap.get?_push_size _ rfl
  have old : ∀ b o, s.heap.get? b = some o → b ≠ s.heap.objs.size + 1 ∧ (P.push (seqObj "list" vs.toArray 0)).get? b = some o := fun b o q => by
    have hlt : b < s.heap.objs.size := Heap.lt_size q
    refine ⟨Nat.ne_of_lt (Nat.lt_succ_of_lt hlt), Heap.get?_push_of_some _ ?_⟩
    rw [← hP, Heap.get?_update_ne _ _ _ _ (Nat.ne_of_lt hlt)]
    exact Heap.get?_push_of_some _ q
  show wpAny _ _ _ _ _ { s with heap := P.push (seqObj "list" vs.toArray 0) }
  rw [hsz]
  refine wpAny_bind (wpAny_holding (wpAny_call_entry slot_list_sort ⟨_, hnew, rfl⟩ entry_list_sort (list_sort_ord O hnew hz (fun h2 => hS h2 _ _ hnew old) fun out hs hb => ⟨_, rfl, ?_⟩) (args_list_sort _)))
  subst hP
  exact wpAny_pure ⟨_, rfl, h out hs hb⟩
end
end SrtO
namespace Mp
open PySem PySem.Spec L2
open PyProof.Rows hiding St
section
variable {X : Cx}
def rSortedT (K : PySem.W.Frag) : List V → Hp → VK → Prop := fun vs H Q => ∃ (a : Addr) (ns : List Int), vs = [V.ref a] ∧ SqT K H a (ns.map V.int) ∧
  ∀ (ns' : List Int) (p : Addr), ns'.Perm ns → ns'.Pairwise (· ≤ ·) → H p = none → Q (.ref p) (upd H p (.lst (ns'.map V.int)))
theorem cr_sortedT : CallR X (.builtin "sorted") (rSortedT X.K) := by
  intro pins s σ H vs us Q I r h
  obtain ⟨a, ns, rfl, hs, q⟩ := h
  obtain ⟨its, rv, hl, hz⟩ := I.tuple hs
  rw [Vals.ref1 r]
  have hi := rv.ints
  refine SrtO.sorted_ordTup SrtO.swo_int hl (by rw [← rv.length]; exact hz) (fun h2 h₁ a' _ _ => SrtO.ints_sortable hi h2) fun out h1 h2 => ?_
  obtain ⟨k1, k2, k3⟩ := SrtO.ints_out hi h1 h2
  obtain ⟨ep, hat⟩ := PyProof.Rows.sortedAll_at s.heap its out.toArray
  refine ⟨.ref _, upd H (s.heap.objs.size + 1) (.lst ((out.map SrtO.iv).map V.int)), I.laid (t' := s.toks) (fun _ _ => PyProof.Rows.sortedAll_old) (Nat.le_succ _) ⟨?_, out, ep, vals_of_ints k1, hat⟩, rfl, q _ _ k2 k3 (I.hok.fresh (Nat.le_succ _))⟩
  rw [List.length_map, k2.length_eq]
  rwa [List.length_map] at hz
def rMaxT (K : PySem.W.Frag) : List V → Hp → VK → Prop := fun vs H Q => ∃ (a : Addr) (ns : List Int), vs = [V.ref a] ∧ SqT K H a (ns.map V.int) ∧ 0 < ns.length ∧ ∀ m, m ∈ ns → (∀ y, y ∈ ns → y ≤ m) → Q (.int m) H
end
/-! by data -/
def sortD : List D → Option D
  | [.lst xs] => match ints? xs with | some ns => some (.lst ((isort ns).map D.int)) | none => none
  | [.tup xs] => match ints? xs with | some ns => some (.lst ((isort ns).map D.int)) | none => none
  | _ => none
def maxD : List D → Option D
  | [.int i, .int k] => some (.int (if k > i then k else i))
  | [.lst xs] => match ints? xs with | some (a :: r) => some (.int (maxL a r)) | _ => none
  | [.tup xs] => match ints? xs with | some (a :: r) => some (.int (maxL a r)) | _ => none
  | _ => none
section
variable {J : Type} {S : Js J} {B : Bs} {M : Nat → Bool} {W : WX} {X : Cx} {e : Expr} {es : List Expr} {pos p : Pos} {fr : Av J} {ci : Bool}
theorem s_sortD : CallS S (fun vs H Q => rSortedI S.K vs H Q ∨ rSortedT S.K vs H Q) sortD ci .fresh := by
  intro B g H j ds d vs Q ok h e q
  unfold sortD at e
  split at e
  · rename_i xs
    exact .inl (s_sorted (ci := ci) B g H j _ d vs Q ok h e q)
  · rename_i xs
    split at e
    · rename_i ns hn
      cases e
      have hx := ints?_some hn
      subst hx
      cases h with
      | cons h1 h2 =>
        cases h2
        obtain ⟨a, ws, rfl, ha, ra⟩ := tup_of h1
        have hv := RpL.of_ints ra
        subst hv
        refine .inr ⟨a, ns, rfl, (ha.same (ok.sub ci)).t, fun ns' p hp hs np => ?_⟩
        have e2 := isort_unique hp hs
        subst e2
        obtain ⟨n1, n2, n3, n4⟩ := ok.hn np
        exact q (g.see p (.lst ((isort ns).map V.int))) _ _ (Le.see n2) (ok.see _ np) ⟨p, rfl, n2, n1, .inl ⟨_, _, rfl, upd_same, RpL.ints _⟩⟩
    · cases e
  · cases e
theorem kSortD (hK : X.K = S.K) (hm : X.mg "sorted" = none) (ha : PA X (e :: es) (rdA S B M W ci fr)) (hg : Gl X "sorted" := by rfl) (he : starEach (e :: es) X.env = (false, eval e X.env) :: starEach es X.env := by rfl) (hpl : (backTo pos (starEach es X.env)).any (·.1) = false := by rfl) :
    PE X (.Call (.Name "sorted" p) (e :: es) [] pos) (rdE S B M W .fresh (eB sortD fr)) := kB (cr_sortedI.or cr_sortedT) (by rw [hK]; exact s_sortD) hm bt_sorted ha hg (by decide) (by decide) he hpl
end
@[simp] theorem maxD_i {a b : Int} : maxD [.int a, .int b] = some (.int (if b > a then b else a)) := rfl
theorem sort_t {ns : List Int} : sortD [.tup (ns.map D.int)] = some (.lst ((isort ns).map D.int)) := by
  show (match ints? (ns.map D.int) with | some ns => some (D.lst ((isort ns).map D.int)) | none => none) = _
  rw [ints?_map]
theorem sort_l {ns : List Int} : sortD [.lst (ns.map D.int)] = some (.lst ((isort ns).map D.int)) := by
  show (match ints? (ns.map D.int) with | some ns => some (D.lst ((isort ns).map D.int)) | none => none) = _
  rw [ints?_map]
end Mp

/-! MpJ: the random source of the laws k01 to k10, k71 to k78. -/
namespace Mp
open PySem PySem.Spec L2
open PyProof.Rows hiding St
/-! ### a def by a function on data (for the sources alone) -/
abbrev FvO (J : Type) := List D → J → Option (D × J)
def spFO {J : Type} (S : Js J) (n : Nat) (φ : FvO J) : Sp := fun vs H Q _ => ∃ F A j ds d j', Same F H ∧ (∀ b o, F b = some o → ¬ A b) ∧ S.rep j F A H ∧ (∃ o u, H sysModules = some (.frz o u)) ∧ RpL S F ds vs ∧ ds.length = n ∧ φ ds j = some (d, j') ∧
  ∀ F' A' H' v, FPost S F A H F' A' H' j' → Rp S F' d v → Q v H'
structure LJ where
  cells : List Int
  n : Nat
  great : List Int
  hc : cells ≠ []
  hl : cells.length ≤ 100
  hg : great.length ≤ 100
def goR : List Int → Int → Option (Int × List Int)
  | [], _ => none
  | r :: rs, k => if 0 < r then some (r % k, (r / k) :: rs) else goR rs k
def hash1 (c : Int) (n : Nat) : Int := (c % 4294967291 + 2246822519 * ((n : Int) + 1)) % 4294967291
def hash2 (s : Int) : Int := s * s % 4294967279 * 2654435761 % 4294967291
def hash3 (s : Int) (n : Nat) : Int := (s + 374761393 * (n : Int)) ^ (2 : Nat) % 4294967231
def hashV (c : Int) (n : Nat) : Int := hash3 (hash2 (hash1 c n)) n
def cellAt (cells : List Int) (n : Nat) : Int := cells.getD (n % cells.length) 0
theorem goR_len : ∀ {gs : List Int} {k v : Int} {gs' : List Int}, goR gs k = some (v, gs') → gs'.length ≤ gs.length
  | [], _, _, _, h => by cases h
  | r :: rs, k, v, gs', h => by
    unfold goR at h
    split at h
    · cases h; simp
    · exact Nat.le_trans (goR_len h) (by simp)
def LJ.lift (j : LJ) (k : Int) : Int × LJ := match h : goR j.great.reverse k with
  | some (v, gs) => (v, ⟨j.cells, j.n + 1, gs.reverse, j.hc, j.hl, by have := goR_len h; have := j.hg; simp at *; omega⟩)
  | none => (hashV (cellAt j.cells j.n) j.n / 8 % k, ⟨j.cells, j.n + 1, [], j.hc, j.hl, by simp⟩)
def NMAX : Nat := 1000000000
def liftF : FvO LJ := fun ds j => match ds with
  | [.jar, .int k] => if decide (0 < k) && sg k && decide (j.n < NMAX) then some (.int (j.lift k).1, (j.lift k).2) else none
  | _ => none
/-- how it lies: the list at R, its cells at c, its great numbers at e -/
def repL (R : Addr) (j : LJ) (A : Addr → Prop) (H : Hp) : Prop := ∃ c e, c ≠ R ∧ e ≠ R ∧ c ≠ e ∧ H R = some (.lst [.ref c, .int (j.n : Nat), .ref e]) ∧ H c = some (.lst (j.cells.map V.int)) ∧ H e = some (.lst (j.great.map V.int)) ∧ ∀ b, A b ↔ b = R ∨ b = c ∨ b = e
def jsL (K : PySem.W.Frag) (R : Addr) : Js LJ where
  K := K
  R := .ref R
  cl := fun _ => 0
  xc := fun _ => 0
  xf := fun _ => ""
  rep := fun j _ A H => repL R j A H
  frame := fun {j F F' A H H'} h _ q => by
    obtain ⟨c, e, h1, h2, h3, h4, h5, h6, h7⟩ := h
    exact ⟨c, e, h1, h2, h3, by rw [q R ((h7 R).mpr (.inl rfl))]; exact h4, by rw [q c ((h7 c).mpr (.inr (.inl rfl)))]; exact h5, by rw [q e ((h7 e).mpr (.inr (.inr rfl)))]; exact h6, h7⟩
  dom := fun {j F A H b} h a => by
    obtain ⟨c, e, h1, h2, h3, h4, h5, h6, h7⟩ := h
    rcases (h7 b).mp a with rfl | rfl | rfl
    · rw [h4]; simp
    · rw [h5]; simp
    · rw [h6]; simp
/-- what a def that draws leaves of the heap -/
structure Out (A : Addr → Prop) (H H' : Hp) : Prop where
  keep : ∀ b o, H b = some o → ¬ A b → H' b = some o
  dm : ∀ b, H' b = none → H b = none
theorem Out.refl (A : Addr → Prop) (H : Hp) : Out A H H := ⟨fun _ _ e _ => e, fun _ e => e⟩
theorem Out.at {A : Addr → Prop} {H H' : Hp} (h : Out A H H') {a : Addr} (ha : A a) (o : HO) : Out A H (upd H' a o) := ⟨fun b u e n => by rw [upd_ne (show b ≠ a from fun z => n (by rw [z]; exact ha))]; exact h.keep b u e n, fun b e => by
  by_cases hb : b = a
  · subst hb; rw [upd_same] at e; cases e
  · rw [upd_ne hb] at e; exact h.dm b e⟩
theorem Out.new {A : Addr → Prop} {H H' : Hp} (h : Out A H H') {a : Addr} (ha : H' a = none) (o : HO) : Out A H (upd H' a o) := ⟨fun b u e n => by rw [upd_ne (ne_of_none (h.keep b u e n) ha)]; exact h.keep b u e n, fun b e => by
  by_cases hb : b = a
  · subst hb; exact h.dm b ha
  · rw [upd_ne hb] at e; exact h.dm b e⟩
theorem Out.post {J : Type} {S : Js J} {F H H' : Hp} {A : Addr → Prop} {j' : J} (h : Out A H H') (fh : Same F H) (fa : ∀ b o, F b = some o → ¬ A b) (jr : S.rep j' F A H') (sm : ∃ o u, H sysModules = some (.frz o u)) (na : ¬ A sysModules) : FPost S F A H F A H' j' :=
  ⟨Same.refl _, fun b o e => h.keep b o (fh b o e) (fa b o e), fa, jr, h.keep, fun b o e => .inl e, fun b e => .inl e, h.dm, let ⟨o, u, e⟩ := sm; ⟨o, u, h.keep _ _ e na⟩⟩

/-! ### _law_lift -/
def rMulW : R2 := rI CMulW fun i j => .int (i * j)
def rAddI : R2 := rI0 fun i j => .int (i + j)
def rMod : R2 := rI (fun _ j => 0 < j) fun i j => .int (i % j)
def rDivW : R2 := rI CDivW fun i j => .int (i / j)
def rPowI : R2 := rI CPow fun i j => .int (i ^ j.toNat)
def rLen1 (K : PySem.W.Frag) : List V → Hp → VK → Prop := fun xs H Q => ∃ x n, xs = [x] ∧ LenV K x H n ∧ Q (.int n) H
def tLiftW (K : PySem.W.Frag) : TS := tWhile (tTest (tOp (rNeD K) (tVar 4) (tLst tNil)))
  (tSeq (tAsg (tBM0 K "list" rPop (tVar 4)) (gName 5)) (tIfS (tTest (tOp (rI0 fun i j => .bl (decide (j < i))) (tVar 5) (tC (.int 0))))
    (tSeq (tDrop (tBM K "list" rAppend (tVar 4) (tCons (tOp rDivW (tVar 5) (tVar 1)) tNil))) (tRet (tOp rMod (tVar 5) (tVar 1)))) tNext))
def tLift1 (K : PySem.W.Frag) : TE := tOp rMod (tOp rAddI (tOp rMod (tOp (rIxL K) (tVar 2) (tOp rMod (tVar 3) (tCB (rLen1 K) (tCons (tVar 2) tNil)))) (tC (.int 4294967291))) (tOp rMulW (tC (.int 2246822519)) (tOp rAddI (tVar 3) (tC (.int 1))))) (tC (.int 4294967291))
def tLift2 : TE := tOp rMod (tOp rMulW (tOp rMod (tOp rMulW (tVar 6) (tVar 6)) (tC (.int 4294967279))) (tC (.int 2654435761))) (tC (.int 4294967291))
def tLift3 : TE := tOp rMod (tOp rPowI (tOp rAddI (tVar 6) (tOp rMulW (tC (.int 374761393)) (tVar 3))) (tC (.int 2))) (tC (.int 4294967231))
def tLift (K : PySem.W.Frag) : TS :=
  tSeq (tAsg (tVar 0) (gUnl K 3 (gCons (gName 2) (gCons (gName 3) (gCons (gName 4) gNil)))))
  (tSeq (tAsg (tOp rAddI (tVar 3) (tC (.int 1))) (gSub (tVar 0) (tC (.int 1)) rSetL))
  (tSeq (tLiftW K)
  (tSeq (tAsg (tLift1 K) (gName 6)) (tSeq (tAsg tLift2 (gName 6)) (tSeq (tAsg tLift3 (gName 6))
  (tRet (tOp rMod (tOp rDivW (tVar 6) (tC (.int 8))) (tVar 1))))))))
theorem pyInts (ns : List Int) : pyL (ns.map D.int) = some (ns.map PyData.int) := by
  induction ns with
  | nil => rfl
  | cons n ns ih => simp only [List.map_cons, pyL, py, ih]
theorem dpInts {K : PySem.W.Frag} {H : Hp} : ∀ (ns : List Int), DpAll K H (ns.map V.int) (ns.map PyData.int)
  | [] => .nil
  | n :: ns => .cons (.int n) (dpInts ns)
theorem shaped_ints (gs : List Int) : SeqAt.shaped (.list (gs.map PyData.int)) = true := by
  have h1 : PyData.canLayAll0 (gs.map PyData.int) = true := by
    induction gs with
    | nil => rfl
    | cons g gs ih => simp only [List.map_cons, PyData.canLayAll0, PyData.canLay0, ih]; rfl
  have h2 : PyData.depthAll (gs.map PyData.int) = 0 := by
    induction gs with
    | nil => rfl
    | cons g gs ih => simp only [List.map_cons, PyData.depthAll, PyData.depth]; rw [ih (by simpa [PyData.canLayAll0, PyData.canLay0] using h1)]; rfl
  unfold SeqAt.shaped
  simp only [PyData.canLay0, PyData.depth, h1, h2]
  decide
theorem eqv_cons (g : Int) (gs : List Int) : PyData.eqv (.list ((g :: gs).map PyData.int)) (.list []) = false := by
  simp only [List.map_cons, PyData.eqv, PyData.eqvAll]
/-! ### the source by what is asked of it alone: how often it was drawn from -/
def jsN (K : PySem.W.Frag) (cl xc : Nat → Addr) (xf : Nat → Str) (R : Addr) : Js Nat where
  K := K
  R := .ref R
  cl := cl
  xc := xc
  xf := xf
  rep := fun n _ A H => ∃ j : LJ, j.n = n ∧ repL R j A H
  frame := fun {n F F' A H H'} ⟨j, e, h⟩ s q => ⟨j, e, (jsL K R).frame (F := F) (F' := F') h s q⟩
  dom := fun {n F A H b} ⟨j, e, h⟩ a => (jsL K R).dom (F := F) h a
instance {K : PySem.W.Frag} {cl xc : Nat → Addr} {xf : Nat → Str} {R : Addr} : PureJ (jsN K cl xc xf R) := ⟨fun h => h⟩
/-- an int below k, any -/
def drawF (ds : List D) (n : Nat) (P : D → Nat → Prop) (E : Ex → Nat → Prop) : Prop := ∃ k, ds = [.jar, .int k] ∧ 0 < k ∧ sg k = true ∧ n < NMAX ∧ ∀ v, 0 ≤ v → v < k → P (.int v) (n + 1)
instance : MoF drawF := ⟨fun ⟨k, e, h1, h2, h3, h⟩ q _ => ⟨k, e, h1, h2, h3, fun v a b => q _ _ (h v a b)⟩⟩
end Mp

/-! MpO: how the random source of k01 to k10, k71 to k78 is opened. -/
namespace Mp
open PySem PySem.Spec L2
open PyProof.Rows hiding St
/-- a list comprehension over ints -/
theorem lcI {K : PySem.W.Frag} {a : Addr} {xs : List Int} {H1 : Hp} {Dd : Addr} {i : Nat} {σ : St} {tt : TT} {te : TE} {Q : Hp → Prop} (f : Int → Int) (t : Int → Bool) (hS : SqL K H1 a (xs.map V.int)) (hD : H1 Dd = none) (hlen : xs.length ≤ 1000)
    (htt : ∀ x H (Q : Bool → Hp → Prop), Q (t x) H → tt ((wipe σ [i]).set i (some (.int x))) H Q) (hte : ∀ x H (Q : VK), Q (.int (f x)) H → te ((wipe σ [i]).set i (some (.int x))) H Q) (hd : Q (upd H1 Dd (.lst (((xs.filter t).map f).map V.int)))) :
    ∃ W : Nat → Nat → Hp → Prop, (∃ m, W 0 m (upd H1 Dd (.lst []))) ∧ ∀ k m H, W k m H →
      ((Itl K a).stop k H ∧ Q H) ∨ ((Itl K a).go k H ∧ ∃ Nx : Hp → Prop, (∀ H', Nx H' → ∃ m', m' < m ∧ W (k + 1) m' H') ∧ ∀ x H', (Itl K a).yld k H x H' → gName i x (wipe σ [i]) H' fun σ2 H2 => wipe σ2 [i] = wipe σ [i] ∧ tt σ2 H2 fun b H3 =>
        if b = true then te σ2 H3 fun y H4 => ∃ acc, H4 Dd = some (.lst acc) ∧ acc.length < sizeLine ∧ Nx (upd H4 Dd (.lst (acc ++ [y]))) else Nx H3) := by
  have uu : ∀ (o o' : HO), upd (upd H1 Dd o) Dd o' = upd H1 Dd o' := fun o o' => by
    funext b
    by_cases hb : b = Dd
    · subst hb; rw [upd_same, upd_same]
    · rw [upd_ne hb, upd_ne hb, upd_ne hb]
  refine lc_it (walk_list (K := K) (a := a) (xs := xs.map V.int)) (fun k H => H = upd H1 Dd (.lst ((((xs.take k).filter t).map f).map V.int))) rfl (fun k H _ e => ?_) (fun k x H H' hk e y => ?_) (fun H e => ?_)
  · rw [e]
    exact (same_new hD).seq hS
  · obtain ⟨rfl, hx⟩ := y
    subst e
    rw [List.getElem?_map, Option.map_eq_some_iff] at hx
    obtain ⟨z, hz, rfl⟩ := hx
    refine ⟨?_, htt z _ _ ?_⟩
    · show ((wipe σ []).set i none |>.set i (some (V.int z)) |>.set i none) = (wipe σ []).set i none
      rw [List.set_set, List.set_set]
    · have htk : xs.take (k + 1) = xs.take k ++ [z] := by
        rw [List.take_add_one, hz]; rfl
      cases ht : t z with
      | true =>
        refine iteT ?_
        refine hte z _ _ ⟨_, upd_same, ?_, ?_⟩
        · rw [List.length_map, List.length_map]
          refine Nat.lt_of_le_of_lt (Nat.le_trans (List.length_filter_le _ _) (Nat.le_trans (by rw [List.length_take]; exact Nat.min_le_right _ _) hlen)) (by decide)
        · rw [uu, htk, List.filter_append, List.map_append, List.map_append]
          simp [ht]
      | false =>
        refine iteF ?_
        rw [htk, List.filter_append]
        simp [ht]
  · rw [List.length_map, List.take_length] at e
    rw [e]; exact hd
def rAbs1 : List V → Hp → VK → Prop := fun xs H Q => ∃ i, xs = [.int i] ∧ Q (.int (if i < 0 then -i else i)) H
def rGe : R2 := rI0 fun i j => .bl (decide (j ≤ i))
def rIntB : List V → Hp → VK → Prop := fun xs H Q => (∃ i, xs = [.int i] ∧ Q (.int i) H) ∨ ∃ k, xs = [.bl k] ∧ Q (.int (if k then 1 else 0)) H
def tOpened (K : PySem.W.Frag) : TS :=
  tSeq (tAsg (tLc (iList K (L2.tSl (rSlL K) (tVar 0) tNoPart (tPart (tC (.int 60))))) (gName 2) tYes (tCB rAbs1 (tCons (tVar 2) tNil)) [2]) (gName 1))
    (tRet (tLst (tCons (tOp rCat (tVar 1) (tOp rRep (tLst (tCons (tC (.int 23)) tNil)) (tCB rIntB (tCons (tOp (rEqD K) (tVar 1) (tLst tNil)) tNil))))
      (tCons (tC (.int 0)) (tCons (tLc (iList K (tVar 1)) (gName 2) (tTest (tOp rGe (tVar 2) (tOp rPowI (tC (.int 10)) (tC (.int 18))))) (tVar 2) [2]) tNil)))))
/-- the source as it is opened -/
def absI (i : Int) : Int := if i < 0 then -i else i
def cells0 (ns : List Int) : List Int := (ns.take 60).map absI
def openJ (ns : List Int) : LJ where
  cells := if cells0 ns = [] then [23] else cells0 ns
  n := 0
  great := (cells0 ns).filter fun c => decide (10 ^ 18 ≤ c)
  hc := by split <;> simp_all
  hl := by
    split
    · decide
    · unfold cells0; rw [List.length_map, List.length_take]; omega
  hg := Nat.le_trans (List.length_filter_le _ _) (by unfold cells0; rw [List.length_map, List.length_take]; omega)
def spOpen (K : PySem.W.Frag) : Sp := fun vs H Q _ => ∃ a ns, vs = [.ref a] ∧ ns.length ≤ 63 ∧ SqL K H a (ns.map V.int) ∧ ∀ (H' : Hp) (R : Addr) (A : Addr → Prop), Same H H' → (∀ b, A b → H b = none) → repL R (openJ ns) A H' → Q (.ref R) H'
end Mp

/-! NL: a law that opens its source first. -/
namespace Mp
open PySem PySem.Spec L2
open PyProof.Rows hiding St
def blkB (N : List Str) (sc scope : Scope) (own : List (Str × Nat)) : Bool :=
  decide (scope.kind = .function) && decide (∀ y ∈ scope.names, scope.names.lookup y.1 = some y.2) && decide (∀ p ∈ own, N[p.2]? = some p.1) &&
    decide (∀ y ∈ scope.names, y.2 = .free → sc.names.lookup y.1 = some .cell ∨ sc.names.lookup y.1 = some .free) && decide (∀ y ∈ scope.names, y.2 = .local ∨ y.2 = .cell → y.1 ∈ own.map (·.1) ∨ y.1 ∉ N)
theorem blk_of {N' : List Str} {sc' scope : Scope} {own : List (Str × Nat)} (N : List Str) (sc : Scope) (hN : N' = N) (hs : sc' = sc) (h : blkB N sc scope own = true) : BlkOk N' sc' scope own := by
  subst hN hs
  unfold blkB at h
  simp only [Bool.and_eq_true, decide_eq_true_eq] at h
  obtain ⟨⟨⟨⟨h1, h2⟩, h3⟩, h4⟩, h5⟩ := h
  exact ⟨h1, h2, h3, h4, h5⟩
def m0 (k : Nat) : Sd := none :: some .jar :: List.replicate (k - 2) none
/-- the promise of a def that opens a source -/
def spOpenG {J : Type} (Sf : Addr → Js J) (Good : J → Prop) (K : PySem.W.Frag) : Sp := fun vs H Q _ => ∃ (a : Addr) (ns : List Int), vs = [.ref a] ∧ ns.length ≤ 63 ∧ SqL K H a (ns.map V.int) ∧ ∀ (H' : Hp) (R : Addr) (A : Addr → Prop) (j : J), Same H H' → (∀ b, A b → H b = none) → Good j → (Sf R).rep j (fun _ => none) A H' → Q (.ref R) H'
theorem law_pureG {J : Type} {Sf : Addr → Js J} {Good : J → Prop} {K : PySem.W.Frag} {N : List Str} (hR : ∀ R, (Sf R).R = .ref R) (hN : 2 ≤ N.length) {M : Nat → Bool} (hM : ∀ i, i < 2 → M i = false) {f : Sv J} (hlaw : ∀ j, Good j → f (m0 N.length) j (fun l _ _ => l = .ret (.bl true)) xNo) {vs : List V} {H : Hp} {Q : VK} {E : XK} (h : spLaw K vs H Q E) :
    tSeq (tAsg (tCall (spOpenG Sf Good K) [] E0 (tCons (tVar 0) tNil)) (gName 1)) (fun D σ H => ∃ RB : Addr × Bs, rdS (Sf RB.1) RB.2 M W0 f D σ H) { nx := fun _ H' => Q .non H', rt := Q } (L2.start N vs) H := by
  obtain ⟨a, ns, rfl, hl, hb, hS, sM, q⟩ := h
  have st : L2.start N [.ref a] = some (.ref a) :: none :: List.replicate (N.length - 2) none := by
    unfold L2.start
    obtain ⟨k, hk⟩ : ∃ k, N.length = k + 2 := ⟨N.length - 2, by omega⟩
    rw [hk]
    rfl
  rw [st]
  refine ⟨_, rfl, a, ns, rfl, hl, hS, fun H' R A j sm fr gd rp => ?_⟩
  have hf := hlaw j gd
  refine ⟨(R, ⟨fun _ => none, H', A⟩), ⟨fun _ => none, fun _ => none, A⟩, m0 N.length, j, _, _, ⟨⟨fun _ _ e => e, fun _ _ e => (nomatch e), fun _ _ e => (nomatch e), rp, fun _ _ e => e, fun _ _ e => (nomatch e), fun _ e => .inl e, fun _ _ e _ => e, fun _ e => e, let ⟨o, u, e⟩ := sM; ⟨o, u, sm _ _ e⟩⟩, ?_⟩, hf, fun fl m' j' hfl => ?_, XOut.no⟩
  · have lenE : ((some (V.ref a) :: none :: List.replicate (N.length - 2) none : St).set 1 (some (.ref R))).length = (m0 N.length).length := by simp [m0]
    have only : ∀ i d, (m0 N.length)[i]? = some (some d) → i = 1 ∧ d = .jar := fun i d e => by
      unfold m0 at e
      match i, e with
      | 0, e => simp at e
      | 1, e => simp at e; exact ⟨rfl, e.symm⟩
      | i + 2, e =>
        simp only [List.getElem?_cons_succ, List.getElem?_replicate] at e
        split at e <;> cases e
    refine ⟨lenE, fun i d e _ => ?_, fun i d e m => ?_, fun i k b d d' e _ m _ _ _ => ?_⟩
    · obtain ⟨rfl, rfl⟩ := only i d e
      exact ⟨.ref R, rfl, by rw [← hR R]; exact .jar⟩
    · obtain ⟨rfl, rfl⟩ := only i d e
      rw [hM 1 (by decide)] at m; cases m
    · obtain ⟨rfl, rfl⟩ := only i d e
      rw [hM 1 (by decide)] at m; cases m
  · subst hfl
    intro g' H2 v ok rv
    rw [bl_of rv]
    exact q H2
/-- a law's start: the source drawn from a few times at most -/
def Few (n : Nat) : Prop := n ≤ 1000000
end Mp

/-! MpD: the random source of the laws k37 to k47. -/
namespace Mp
open PySem PySem.Spec L2
open PyProof.Rows hiding St
structure DJ where
  great : List Int
  small : Int
  n : Nat
  hg : great.length ≤ 100
  h0 : 0 ≤ small
  h1 : small < 1000000000039
/-- without the zeros at its end -/
def strip : List Int → List Int
  | [] => []
  | x :: r => match strip r with
    | [] => if x = 0 then [] else [x]
    | y :: s => x :: y :: s
theorem strip_len : ∀ (l : List Int), (strip l).length ≤ l.length
  | [] => Nat.le_refl _
  | x :: r => by
    have := strip_len r
    unfold strip
    split
    · split <;> simp
    · rename_i h; rw [h] at this; simp at this ⊢; omega
theorem strip_snoc0 : ∀ (l : List Int), strip (l ++ [0]) = strip l
  | [] => rfl
  | x :: r => by
    show strip (x :: (r ++ [0])) = strip (x :: r)
    unfold strip
    rw [strip_snoc0 r]
theorem strip_snoc : ∀ (l : List Int) {z : Int}, z ≠ 0 → strip (l ++ [z]) = l ++ [z]
  | [], z, h => by unfold strip; simp [strip, h]
  | x :: r, z, h => by
    show strip (x :: (r ++ [z])) = _
    unfold strip
    rw [strip_snoc r h]
    cases hr : r ++ [z] with
    | nil => simp at hr
    | cons y s => simp [hr]
def rnd1 (s : Int) (n : Nat) : Int := (s * 92821 + ((n : Int) + 1) * 7919 + 17) % 1000000000039
theorem rnd1_rng (s : Int) (n : Nat) : 0 ≤ rnd1 s n ∧ rnd1 s n < 1000000000039 := ⟨Int.emod_nonneg _ (by decide), Int.emod_lt_of_pos _ (by decide)⟩
def DJ.roll (j : DJ) (k : Int) : Int × DJ := match h : (strip j.great).getLast? with
  | some z => (z % k, ⟨(strip j.great).dropLast ++ [z / k], j.small, j.n, by
      have := strip_len j.great; have := j.hg
      have h2 : (strip j.great) ≠ [] := fun q => by rw [q] at h; cases h
      have := List.length_pos_iff.mpr h2
      simp; omega, j.h0, j.h1⟩)
  | none => ((rnd1 j.small j.n * rnd1 j.small j.n + ((j.n : Int) + 1)) % 999999999989 / 5 % k, ⟨[], rnd1 j.small j.n, j.n + 1, by simp, (rnd1_rng _ _).1, (rnd1_rng _ _).2⟩)
theorem DJ.roll_rng (j : DJ) {k : Int} (hk : 0 < k) : 0 ≤ (j.roll k).1 ∧ (j.roll k).1 < k := by
  unfold DJ.roll
  split
  · exact ⟨Int.emod_nonneg _ (by omega), Int.emod_lt_of_pos _ hk⟩
  · exact ⟨Int.emod_nonneg _ (by omega), Int.emod_lt_of_pos _ hk⟩
theorem DJ.roll_n (j : DJ) (k : Int) : (j.roll k).2.n ≤ j.n + 1 := by
  unfold DJ.roll
  split
  · exact Nat.le_succ _
  · exact Nat.le_refl _
def rollF : FvO DJ := fun ds j => match ds with
  | [.jar, .int k] => if decide (0 < k) && sg k && decide (j.n < NMAX) then some (.int (j.roll k).1, (j.roll k).2) else none
  | _ => none
def repD (R : Addr) (j : DJ) (A : Addr → Prop) (H : Hp) : Prop := ∃ e, e ≠ R ∧ H R = some (.lst [.ref e, .int j.small, .int (j.n : Nat)]) ∧ H e = some (.lst (j.great.map V.int)) ∧ ∀ b, A b ↔ b = R ∨ b = e
def jsD (K : PySem.W.Frag) (R : Addr) : Js DJ where
  K := K
  R := .ref R
  cl := fun _ => 0
  xc := fun _ => 0
  xf := fun _ => ""
  rep := fun j _ A H => repD R j A H
  frame := fun {j F F' A H H'} h _ q => by
    obtain ⟨e, h1, h4, h6, h7⟩ := h
    exact ⟨e, h1, by rw [q R ((h7 R).mpr (.inl rfl))]; exact h4, by rw [q e ((h7 e).mpr (.inr rfl))]; exact h6, h7⟩
  dom := fun {j F A H b} h a => by
    obtain ⟨e, h1, h4, h6, h7⟩ := h
    rcases (h7 b).mp a with rfl | rfl
    · rw [h4]; simp
    · rw [h6]; simp
theorem Out.postD {K : PySem.W.Frag} {R e' : Addr} {F H H' : Hp} {A : Addr → Prop} {j' : DJ} (h : Out A H H') (fh : Same F H) (fa : ∀ b o, F b = some o → ¬ A b) (aR : A R) (he : A e' ∨ H e' = none) (ne : e' ≠ R)
    (h1 : H' R = some (.lst [.ref e', .int j'.small, .int (j'.n : Nat)])) (h2 : H' e' = some (.lst (j'.great.map V.int))) (sm : ∃ o u, H sysModules = some (.frz o u)) (na : ¬ A sysModules) : FPost (jsD K R) F A H F (fun b => b = R ∨ b = e') H' j' := by
  refine ⟨Same.refl _, fun b o e => h.keep b o (fh b o e) (fa b o e), fun b o e z => ?_, ⟨e', ne, h1, h2, fun b => Iff.rfl⟩, h.keep, fun b o e => .inl e, fun b z => ?_, h.dm, let ⟨o, u, e⟩ := sm; ⟨o, u, h.keep _ _ e na⟩⟩
  · rcases z with z | z
    · exact fa b o e (by rw [z]; exact aR)
    · subst z
      rcases he with he | he
      · exact fa b o e he
      · rw [fh b o e] at he
        cases he
  · rcases z with z | z
    · exact .inl (by rw [z]; exact aR)
    · rw [z]; exact he
def tNeg1 : TE := tUn (rU fun i => .int (-i)) (tC (.int 1))
def tD0 (K : PySem.W.Frag) : TE := tOp (rIxL K) (tVar 0) (tC (.int 0))
def tRoll (K : PySem.W.Frag) : TS :=
  tSeq (tWhile (tAnd (tTest (tOp (rNeD K) (tD0 K) (tLst tNil))) (tTest (tOp rEq (tOp (rIxL K) (tD0 K) tNeg1) (tC (.int 0)))))
    (tAsg (L2.tSl (rSlL K) (tD0 K) tNoPart (tPart tNeg1)) (gSub (tVar 0) (tC (.int 0)) rSetL)))
  (tSeq (tIfS (tTest (tOp (rNeD K) (tD0 K) (tLst tNil)))
    (tSeq (tAsg (tOp (rIxL K) (tD0 K) tNeg1) (gName 2))
      (tSeq (tAsg (tOp rCat (L2.tSl (rSlL K) (tD0 K) tNoPart (tPart tNeg1)) (tLst (tCons (tOp rDivW (tVar 2) (tVar 1)) tNil))) (gSub (tVar 0) (tC (.int 0)) rSetL))
        (tRet (tOp rMod (tVar 2) (tVar 1))))) tNext)
  (tSeq (tAsg (tOp rAddI (tOp (rIxL K) (tVar 0) (tC (.int 2))) (tC (.int 1))) (gSub (tVar 0) (tC (.int 2)) rSetL))
  (tSeq (tAsg (tOp rMod (tOp rAddI (tOp rAddI (tOp rMulW (tOp (rIxL K) (tVar 0) (tC (.int 1))) (tC (.int 92821))) (tOp rMulW (tOp (rIxL K) (tVar 0) (tC (.int 2))) (tC (.int 7919)))) (tC (.int 17))) (tC (.int 1000000000039))) (gSub (tVar 0) (tC (.int 1)) rSetL))
  (tRet (tOp rMod (tOp rDivW (tOp rMod (tOp rAddI (tOp rMulW (tOp (rIxL K) (tVar 0) (tC (.int 1))) (tOp (rIxL K) (tVar 0) (tC (.int 1)))) (tOp (rIxL K) (tVar 0) (tC (.int 2)))) (tC (.int 999999999989))) (tC (.int 5))) (tVar 1))))))
theorem lastI {gs : List Int} {z : Int} : atI ((gs ++ [z]).map V.int) (-1) = some (.int z) := by
  have hx : ixN ((gs ++ [z]).map V.int).length (-1) = some gs.length := by
    unfold ixN
    rw [if_neg (by decide), if_pos (by simp; omega)]
    simp
    omega
  unfold atI
  rw [hx, Option.bind_some]
  simp
theorem cut_last {gs : List Int} {z : Int} : cutV ((gs ++ [z]).map V.int) none (some (-1)) = gs.map V.int := by
  unfold cutV
  have e1 : HT.sIx ((gs ++ [z]).map V.int).length 0 none = 0 := rfl
  have e2 : HT.sIx ((gs ++ [z]).map V.int).length ((gs ++ [z]).map V.int).length (some (-1)) = gs.length := by
    unfold HT.sIx
    simp
    omega
  rw [e1, e2, List.drop_zero, Nat.sub_zero, List.map_append]
  simp
theorem roll_pure {K : PySem.W.Frag} {R : Addr} {N : List Str} (hN : N.length = 3) {vs : List V} {H : Hp} {Q : VK} {E : XK} (h : spFO (jsD K R) 2 rollF vs H Q E) : tRoll K { nx := fun _ H' => Q .non H', rt := Q } (L2.start N vs) H := by
  obtain ⟨F, A, j, ds, d, j', fh, fa, jr, sM, rp, hl, hf, q⟩ := h
  unfold rollF at hf
  split at hf
  · rename_i k
    split at hf
    · rename_i hc
      simp only [Bool.and_eq_true, decide_eq_true_eq] at hc
      obtain ⟨⟨c1, c2⟩, c3⟩ := hc
      cases hf
      obtain ⟨e, h1, h4, h6, h7⟩ : repD R j A H := jr
      cases rp with
      | cons r1 rp =>
        cases rp with
        | cons r2 rp =>
          cases rp
          cases r1
          cases r2
          have st : L2.start N [.ref R, .int k] = [some (.ref R), some (.int k), none] := by
            unfold L2.start; rw [hN]; rfl
          show tRoll K _ (L2.start N [.ref R, .int k]) H
          rw [st]
          have aR : A R := (h7 R).mpr (.inl rfl)
          have ae : A e := (h7 e).mpr (.inr rfl)
          have na : ¬ A sysModules := fun z => by
            obtain ⟨o, u, eo⟩ := sM
            rcases (h7 _).mp z with z | z
            · rw [z, h4] at eo; cases eo
            · rw [z, h6] at eo; cases eo
          have kdiv : ∀ i, CDivW i k := fun _ => ⟨c1, Nat.lt_of_lt_of_le (sg_log c2) (by decide)⟩
          have hnm : j.n < 1000000000 := c3
          have j0 := j.h0
          have j1 := j.h1
          -- the loop
          refine ⟨fun m σ H' => ∃ (gs : List Int) (e' : Addr), σ = [some (.ref R), some (.int k), none] ∧ gs.length = m ∧ gs.length ≤ 100 ∧ e' ≠ R ∧ (A e' ∨ H e' = none) ∧ H' R = some (.lst [.ref e', .int j.small, .int (j.n : Nat)]) ∧ H' e' = some (.lst (gs.map V.int)) ∧ Out A H H' ∧ strip gs = strip j.great,
            ⟨j.great.length, j.great, e, rfl, rfl, j.hg, h1, .inl ae, h4, h6, Out.refl A H, rfl⟩, ?_⟩
          rintro m σ H' ⟨gs, e', rfl, rfl, hg, hne, hae, hR, he, out, hst⟩
          refine ⟨_, rfl, R, _, 0, .ref e', rfl, rfl, .of hR, rfl, by decide, fun p hp => ?_⟩
          have ne1 : e' ≠ p := ne_of_none he hp
          have ne2 : R ≠ p := ne_of_none hR hp
          have he' : upd H' p (.lst []) e' = some (.lst (gs.map V.int)) := by rw [upd_ne ne1]; exact he
          have hR' : upd H' p (.lst []) R = _ := (upd_ne ne2).trans hR
          have o2 := out.new hp (.lst [])
          generalize hH2 : upd H' p (.lst []) = H2 at *
          have hpp : H2 p = some (.lst []) := by rw [← hH2]; exact upd_same
          clear hH2 hp hR he out
          refine ⟨.list (gs.map PyData.int), .list [], .lst (.of he') (dpInts gs), .lst (.of hpp) .nil, shaped_ints gs, by decide, _, rfl, ?_⟩
          have go : ∀ (gs' : List Int) (z : Int) (H3 : Hp), gs = gs' ++ [z] → H3 R = some (.lst [.ref e', .int j.small, .int (j.n : Nat)]) → H3 e' = some (.lst (gs.map V.int)) → Out A H H3 → z ≠ 0 →
              tSeq (tIfS (tTest (tOp (rNeD K) (tD0 K) (tLst tNil)))
                (tSeq (tAsg (tOp (rIxL K) (tD0 K) tNeg1) (gName 2))
                  (tSeq (tAsg (tOp rCat (L2.tSl (rSlL K) (tD0 K) tNoPart (tPart tNeg1)) (tLst (tCons (tOp rDivW (tVar 2) (tVar 1)) tNil))) (gSub (tVar 0) (tC (.int 0)) rSetL))
                    (tRet (tOp rMod (tVar 2) (tVar 1))))) tNext)
              (tSeq (tAsg (tOp rAddI (tOp (rIxL K) (tVar 0) (tC (.int 2))) (tC (.int 1))) (gSub (tVar 0) (tC (.int 2)) rSetL))
              (tSeq (tAsg (tOp rMod (tOp rAddI (tOp rAddI (tOp rMulW (tOp (rIxL K) (tVar 0) (tC (.int 1))) (tC (.int 92821))) (tOp rMulW (tOp (rIxL K) (tVar 0) (tC (.int 2))) (tC (.int 7919)))) (tC (.int 17))) (tC (.int 1000000000039))) (gSub (tVar 0) (tC (.int 1)) rSetL))
              (tRet (tOp rMod (tOp rDivW (tOp rMod (tOp rAddI (tOp rMulW (tOp (rIxL K) (tVar 0) (tC (.int 1))) (tOp (rIxL K) (tVar 0) (tC (.int 1)))) (tOp (rIxL K) (tVar 0) (tC (.int 2)))) (tC (.int 999999999989))) (tC (.int 5))) (tVar 1))))) { nx := fun _ H' => Q .non H', rt := Q } [some (.ref R), some (.int k), none] H3 := by
            intro gs' z H3 egs hR3 he3 out3 hz
            refine ⟨_, rfl, R, _, 0, .ref e', rfl, rfl, .of hR3, rfl, by decide, fun p3 hp3 => ?_⟩
            have he4 : upd H3 p3 (.lst []) e' = some (.lst (gs.map V.int)) := by rw [upd_ne (ne_of_none he3 hp3)]; exact he3
            have hR4 : upd H3 p3 (.lst []) R = _ := (upd_ne (ne_of_none hR3 hp3)).trans hR3
            have o4 := out3.new hp3 (.lst [])
            generalize hH4 : upd H3 p3 (.lst []) = H4 at *
            have hpp3 : H4 p3 = some (.lst []) := by rw [← hH4]; exact upd_same
            clear hH4
            refine ⟨.list (gs.map PyData.int), .list [], .lst (.of he4) (dpInts gs), .lst (.of hpp3) .nil, shaped_ints gs, by decide, _, rfl, ?_⟩
            have hev : (!PyData.eqv (.list (gs.map PyData.int)) (.list [])) = true := by
              rw [egs]
              cases gs' with
              | nil => rw [List.nil_append, eqv_cons]; rfl
              | cons a b => rw [List.cons_append, eqv_cons]; rfl
            rw [hev]
            refine iteT ?_
            refine ⟨_, rfl, R, _, 0, .ref e', rfl, rfl, .of hR4, rfl, 1, rfl, e', _, -1, .int z, rfl, rfl, .of he4, by rw [egs]; exact lastI, ?_⟩
            refine ⟨_, rfl, R, _, 0, .ref e', rfl, rfl, .of hR4, rfl, 1, rfl, -1, rfl, e', _, rfl, .of he4, fun p5 hp5 => ?_⟩
            rw [egs, cut_last]
            have hR5 : upd H4 p5 (.lst (gs'.map V.int)) R = _ := (upd_ne (ne_of_none hR4 hp5)).trans hR4
            have o5 := o4.new hp5 (.lst (gs'.map V.int))
            generalize hH5 : upd H4 p5 (.lst (gs'.map V.int)) = H5 at *
            have h55 : H5 p5 = some (.lst (gs'.map V.int)) := by rw [← hH5]; exact upd_same
            clear hH5
            refine ⟨_, rfl, _, rfl, z, k, rfl, rfl, kdiv z, (show 1 ≤ sizeLine by decide), fun p6 hp6 => ?_⟩
            have hR6 : upd H5 p6 (.lst [.int (z / k)]) R = _ := (upd_ne (ne_of_none hR5 hp6)).trans hR5
            have h56 : upd H5 p6 (.lst [.int (z / k)]) p5 = _ := (upd_ne (ne_of_none h55 hp6)).trans h55
            have o6 := o5.new hp6 (.lst [.int (z / k)])
            generalize hH6 : upd H5 p6 (.lst [.int (z / k)]) = H6 at *
            have h66 : H6 p6 = some (.lst [.int (z / k)]) := by rw [← hH6]; exact upd_same
            clear hH6
            refine ⟨p5, p6, _, _, rfl, rfl, h56, h66, ?_, fun p7 hp7 => ?_⟩
            · rw [List.length_map]
              rw [egs] at hg
              exact Nat.le_trans (show gs'.length + 1 ≤ 1000 by simp at hg; omega) (by decide)
            have hR7 : upd H6 p7 (.lst (gs'.map V.int ++ [.int (z / k)])) R = _ := (upd_ne (ne_of_none hR6 hp7)).trans hR6
            have o7 := o6.new hp7 (.lst (gs'.map V.int ++ [.int (z / k)]))
            have n7 : H p7 = none := o6.dm p7 hp7
            generalize hH7 : upd H6 p7 (.lst (gs'.map V.int ++ [.int (z / k)])) = H7 at *
            have h77 : H7 p7 = some (.lst (gs'.map V.int ++ [.int (z / k)])) := by rw [← hH7]; exact upd_same
            clear hH7
            have ne7 : p7 ≠ R := (ne_of_none hR6 hp7).symm
            refine ⟨_, rfl, R, _, 0, 0, rfl, rfl, hR7, rfl, ?_⟩
            refine ⟨_, rfl, _, rfl, z, k, rfl, rfl, c1, ?_⟩
            have hgl : (strip j.great) = gs' ++ [z] := by rw [← hst, egs, strip_snoc _ hz]
            have hv : (j.roll k).1 = z % k ∧ (j.roll k).2.great = gs' ++ [z / k] ∧ (j.roll k).2.small = j.small ∧ (j.roll k).2.n = j.n := by
              unfold DJ.roll
              split
              · rename_i z' hz'
                rw [hgl] at hz'
                simp at hz'
                subst hz'
                exact ⟨rfl, by simp [hgl], rfl, rfl⟩
              · rename_i hz'
                rw [hgl] at hz'
                simp at hz'
            obtain ⟨v1, v2, v3, v4⟩ := hv
            refine q F _ _ _ ((o7.at aR _).postD fh fa aR (.inr n7) ne7 (by rw [upd_same, v3, v4]; rfl) ?_ sM na) (by rw [v1]; exact .int _)
            rw [upd_ne ne7, h77, v2, List.map_append]
            rfl
          rcases List.eq_nil_or_concat gs with rfl | ⟨gs', z, rfl⟩
          · refine iteF ?_
            refine iteF ?_
            -- nothing great is left
            refine ⟨_, rfl, R, _, 0, .ref e', rfl, rfl, .of hR', rfl, by decide, fun p3 hp3 => ?_⟩
            have he4 : upd H2 p3 (.lst []) e' = some (.lst (([] : List Int).map V.int)) := by rw [upd_ne (ne_of_none he' hp3)]; exact he'
            have hR4 : upd H2 p3 (.lst []) R = _ := (upd_ne (ne_of_none hR' hp3)).trans hR'
            have o4 := o2.new hp3 (.lst [])
            generalize hH4 : upd H2 p3 (.lst []) = H4 at *
            have hpp3 : H4 p3 = some (.lst []) := by rw [← hH4]; exact upd_same
            clear hH4
            refine ⟨.list (([] : List Int).map PyData.int), .list [], .lst (.of he4) (dpInts []), .lst (.of hpp3) .nil, shaped_ints [], by decide, _, rfl, ?_⟩
            refine iteF ?_
            obtain ⟨w1, w2⟩ := rnd1_rng j.small j.n
            refine ⟨_, rfl, R, _, 2, .int (j.n : Nat), rfl, rfl, .of hR4, rfl, _, _, rfl, rfl, _, rfl, R, _, 2, 2, rfl, rfl, hR4, rfl, ?_⟩
            have o5 := o4.at aR (.lst [.ref e', .int j.small, .int ((j.n : Nat) + 1)])
            have he5 : upd H4 R (.lst [.ref e', .int j.small, .int ((j.n : Nat) + 1)]) e' = _ := (upd_ne hne).trans he4
            have hR5 : upd H4 R (.lst [.ref e', .int j.small, .int ((j.n : Nat) + 1)]) R = some (.lst [.ref e', .int j.small, .int ((j.n : Nat) + 1)]) := upd_same
            show tSeq _ _ _ _ (upd H4 R (.lst [.ref e', .int j.small, .int ((j.n : Nat) + 1)]))
            generalize hH5 : upd H4 R (.lst [.ref e', .int j.small, .int ((j.n : Nat) + 1)]) = H5 at *
            clear hH5
            refine ⟨_, rfl, R, _, 1, .int j.small, rfl, rfl, .of hR5, rfl, _, _, rfl, rfl, wide_mul (a := 64) (b := 64) (by omega) (by omega) (by decide) (by decide) (by decide), _, rfl, R, _, 2, .int ((j.n : Nat) + 1), rfl, rfl, .of hR5, rfl, _, _, rfl, rfl, wide_mul (a := 64) (b := 64) (by omega) (by omega) (by decide) (by decide) (by decide), _, _, rfl, rfl, _, _, rfl, rfl, _, _, rfl, rfl, (show (0 : Int) < _ by decide), _, rfl, R, _, 1, 1, rfl, rfl, hR5, rfl, ?_⟩
            have o6 := o5.at aR (.lst [.ref e', .int (rnd1 j.small j.n), .int ((j.n : Nat) + 1)])
            have he6 : upd H5 R (.lst [.ref e', .int (rnd1 j.small j.n), .int ((j.n : Nat) + 1)]) e' = _ := (upd_ne hne).trans he5
            have hR6 : upd H5 R (.lst [.ref e', .int (rnd1 j.small j.n), .int ((j.n : Nat) + 1)]) R = some (.lst [.ref e', .int (rnd1 j.small j.n), .int ((j.n : Nat) + 1)]) := upd_same
            show tRet (tOp rMod (tOp rDivW (tOp rMod (tOp rAddI (tOp rMulW (tOp (rIxL K) (tVar 0) (tC (.int 1))) (tOp (rIxL K) (tVar 0) (tC (.int 1)))) (tOp (rIxL K) (tVar 0) (tC (.int 2)))) (tC (.int 999999999989))) (tC (.int 5))) (tVar 1)) { nx := fun x H' => Q V.non H', rt := Q } [some (V.ref R), some (V.int k), none] (upd H5 R (.lst [.ref e', .int (rnd1 j.small j.n), .int ((j.n : Nat) + 1)]))
            generalize hH6 : upd H5 R (.lst [.ref e', .int (rnd1 j.small j.n), .int ((j.n : Nat) + 1)]) = H6 at *
            clear hH6
            refine ⟨_, rfl, R, _, 1, .int (rnd1 j.small j.n), rfl, rfl, .of hR6, rfl, _, rfl, R, _, 1, .int (rnd1 j.small j.n), rfl, rfl, .of hR6, rfl, _, _, rfl, rfl, wide_mul (a := 64) (b := 64) (by omega) (by omega) (by decide) (by decide) (by decide), _, rfl, R, _, 2, .int ((j.n : Nat) + 1), rfl, rfl, .of hR6, rfl, _, _, rfl, rfl, _, _, rfl, rfl, (show (0 : Int) < _ by decide), _, _, rfl, rfl, ⟨by decide, by decide⟩, _, rfl, _, _, rfl, rfl, c1, ?_⟩
            have hgl : (strip j.great) = [] := by rw [← hst]; rfl
            have hv : (j.roll k).1 = (rnd1 j.small j.n * rnd1 j.small j.n + ((j.n : Int) + 1)) % 999999999989 / 5 % k ∧ (j.roll k).2.great = [] ∧ (j.roll k).2.small = rnd1 j.small j.n ∧ (j.roll k).2.n = j.n + 1 := by
              unfold DJ.roll
              split
              · rename_i z' hz'
                rw [hgl] at hz'
                cases hz'
              · exact ⟨rfl, rfl, rfl, rfl⟩
            obtain ⟨v1, v2, v3, v4⟩ := hv
            exact q F _ _ _ (o6.postD fh fa aR hae hne (by rw [v3, v4]; exact hR6) (by rw [v2]; exact he6) sM na) (by rw [v1]; exact .int _)
          · rw [List.concat_eq_append] at *
            have hev : (!PyData.eqv (.list ((gs' ++ [z]).map PyData.int)) (.list [])) = true := by
              cases gs' with
              | nil => rw [List.nil_append, eqv_cons]; rfl
              | cons a b => rw [List.cons_append, eqv_cons]; rfl
            rw [hev]
            refine iteT ?_
            refine ⟨_, rfl, R, _, 0, .ref e', rfl, rfl, .of hR', rfl, 1, rfl, e', _, -1, .int z, rfl, rfl, .of he', lastI, rfl, _, rfl, ?_⟩
            by_cases hz : z = 0
            · subst hz
              refine iteT ?_
              refine ⟨fun σ H' => ∃ (gs : List Int) (e' : Addr), σ = [some (.ref R), some (.int k), none] ∧ gs.length < (gs' ++ [0]).length ∧ gs.length ≤ 100 ∧ e' ≠ R ∧ (A e' ∨ H e' = none) ∧ H' R = some (.lst [.ref e', .int j.small, .int (j.n : Nat)]) ∧ H' e' = some (.lst (gs.map V.int)) ∧ Out A H H' ∧ strip gs = strip j.great,
                fun σ' H' ⟨gs, e', a1, a2, a3⟩ => ⟨gs.length, a2, gs, e', a1, rfl, a3⟩, ?_⟩
              refine ⟨_, rfl, R, _, 0, .ref e', rfl, rfl, .of hR', rfl, 1, rfl, -1, rfl, e', _, rfl, .of he', fun p5 hp5 => ?_⟩
              rw [cut_last]
              have hR5 : upd H2 p5 (.lst (gs'.map V.int)) R = _ := (upd_ne (ne_of_none hR' hp5)).trans hR'
              have o5 := o2.new hp5 (.lst (gs'.map V.int))
              have n5 : H p5 = none := o2.dm p5 hp5
              have ne5 : p5 ≠ R := (ne_of_none hR' hp5).symm
              refine ⟨_, rfl, R, _, 0, 0, rfl, rfl, hR5, rfl, gs', p5, rfl, by simp, by simp at hg; omega, ne5, .inr n5, upd_same, ?_, o5.at aR _, ?_⟩
              · rw [upd_ne ne5]; exact upd_same
              · rw [← hst, strip_snoc0]
            · have hd : decide (V.int z = V.int 0) = false := by simpa using hz
              rw [hd]
              refine iteF ?_
              exact go gs' z H2 rfl hR' he' o2 hz
    · cases hf
  · cases hf

def jsND (K : PySem.W.Frag) (cl xc : Nat → Addr) (xf : Nat → Str) (R : Addr) : Js Nat where
  K := K
  R := .ref R
  cl := cl
  xc := xc
  xf := xf
  rep := fun n _ A H => ∃ j : DJ, j.n ≤ n ∧ repD R j A H
  frame := fun {n F F' A H H'} ⟨j, e, h⟩ s q => ⟨j, e, (jsD K R).frame (F := F) (F' := F') h s q⟩
  dom := fun {n F A H b} ⟨j, e, h⟩ a => (jsD K R).dom (F := F) h a
instance {K : PySem.W.Frag} {cl xc : Nat → Addr} {xf : Nat → Str} {R : Addr} : PureJ (jsND K cl xc xf R) := ⟨fun h => h⟩
theorem roll_spec {K : PySem.W.Frag} {cl xc : Nat → Addr} {xf : Nat → Str} {R : Addr} {vs : List V} {H : Hp} {Q : VK} {E : XK} (h : spF (jsND K cl xc xf R) 2 drawF vs H Q E) : spFO (jsD K R) 2 rollF vs H Q E := by
  obtain ⟨F, A, n, ds, P, Ep, fh, fa, ⟨j, hj, jr⟩, sM, rp, hl, ⟨k, rfl, h1, h2, h3, hp⟩, q, _⟩ := h
  have rp' : RpL (jsD K R) F [.jar, .int k] vs := by
    cases rp with
    | cons r1 rp =>
      cases rp with
      | cons r2 rp =>
        cases rp
        cases r1
        cases r2
        exact .cons .jar (.cons (.int _) .nil)
  refine ⟨F, A, j, _, .int (j.roll k).1, (j.roll k).2, fh, fa, jr, sM, rp', rfl, ?_, fun F' A' H' v p r => ?_⟩
  · show (if _ then _ else _) = _
    rw [if_pos (by simp [h1, h2]; omega)]
  · have hv : v = .int (j.roll k).1 := int_of r
    subst hv
    exact q _ _ F' A' H' _ (hp _ (j.roll_rng h1).1 (j.roll_rng h1).2) ⟨p.sub, p.fh, p.fa, ⟨_, Nat.le_trans (j.roll_n k) (Nat.succ_le_succ hj), p.jr⟩, p.keep, p.ff, p.af, p.dm, p.sm⟩ (.int _)
end Mp

/-! NQ: how the source of k37 to k47 is opened. -/
namespace Mp
open PySem PySem.Spec L2
open PyProof.Rows hiding St
def spOpenD (c : Nat) (K : PySem.W.Frag) : Sp := spOpenG (jsD K) (fun j => j.n = c) K
def rLtI : R2 := rI0 fun i j => .bl (decide (i < j))
def tAbs2 : TE := tCB rAbs1 (tCons (tVar 2) tNil)
def tTen18 : TE := tOp rPowI (tC (.int 10)) (tC (.int 18))
def tCut61 (K : PySem.W.Frag) : TE := L2.tSl (rSlL K) (tVar 0) tNoPart (tPart (tC (.int 61)))
def tOpenD (c : Int) (K : PySem.W.Frag) : TS :=
  tSeq (tAsg (tC (.int c)) (gName 1))
  (tSeq (tFor (iList K (tCut61 K)) (gName 2) (tIfS (tTest (tOp rLtI tAbs2 tTen18))
      (tAsg (tOp rMod (tOp rAddI (tOp rAddI (tOp rMulW (tVar 1) (tC (.int 48611))) tAbs2) (tOp rMulW (tC (.int 3)) (tCB rIntB (tCons (tOp rLtI (tVar 2) (tC (.int 0))) tNil)))) (tC (.int 1000000000039))) (gName 1)) tNext))
  (tRet (tLst (tCons (tLc (iList K (tCut61 K)) (gName 2) (tTest (tOp rGe tAbs2 tTen18)) tAbs2 [2]) (tCons (tVar 1) (tCons (tC (.int c)) tNil))))))
theorem cut61 {ns : List Int} : cutV (ns.map V.int) none (some 61) = (ns.take 61).map V.int := by
  unfold cutV
  have e1 : HT.sIx (ns.map V.int).length 0 none = 0 := rfl
  have e2 : HT.sIx (ns.map V.int).length (ns.map V.int).length (some 61) = min 61 (ns.map V.int).length := rfl
  rw [e1, e2, List.drop_zero, Nat.sub_zero, List.map_take]
  by_cases h : 61 ≤ (ns.map V.int).length
  · rw [Nat.min_eq_left h]
  · rw [Nat.min_eq_right (by omega), List.take_length, List.take_of_length_le (by omega)]
theorem openD_pure {c : Nat} (hc : c < 1000000) {K : PySem.W.Frag} {N : List Str} (hN : N.length = 3) {vs : List V} {H : Hp} {Q : VK} {E : XK} (h : spOpenD c K vs H Q E) : tOpenD c K { nx := fun _ H' => Q .non H', rt := Q } (L2.start N vs) H := by
  obtain ⟨a, ns, rfl, hl, hS, q⟩ := h
  have st : L2.start N [.ref a] = [some (.ref a), none, none] := by unfold L2.start; rw [hN]; rfl
  rw [st]
  refine ⟨.ref a, rfl, 61, rfl, a, _, rfl, hS, fun p hp => ?_⟩
  rw [cut61]
  have s1 : Same H (upd H p (.lst ((ns.take 61).map V.int))) := same_new hp
  generalize hH1 : upd H p (.lst ((ns.take 61).map V.int)) = H1 at *
  have hp1 : H1 p = some (.lst ((ns.take 61).map V.int)) := by rw [← hH1]; exact upd_same
  clear hH1
  refine ⟨p, rfl, ⟨_, .of hp1⟩, for_list (K := K) (a := p) (xs := (ns.take 61).map V.int) (fun i σ H' => H' = H1 ∧ ∃ (s : Int) (v : Option V), σ = [some (.ref a), some (.int s), v] ∧ 0 ≤ s ∧ s < 1000000000039) ⟨rfl, c, none, rfl, by omega, by omega⟩ (fun i σ H' _ h => by rw [h.1]; exact .of hp1) ?_ ?_⟩
  · rintro i y σ H' hi ⟨rfl, s, v, rfl, s0, s1'⟩
    obtain ⟨z, hz, rfl⟩ : ∃ z, (ns.take 61)[i]? = some z ∧ y = V.int z := by
      rw [List.getElem?_map, Option.map_eq_some_iff] at hi
      obtain ⟨z, h1, h2⟩ := hi
      exact ⟨z, h1, h2.symm⟩
    refine ⟨_, rfl, z, rfl, _, _, rfl, rfl, ⟨by decide, by decide, by decide⟩, _, _, rfl, rfl, _, rfl, ?_⟩
    by_cases hz2 : (if z < 0 then -z else z) < 10 ^ (18 : Int).toNat
    · rw [decide_eq_true hz2]
      refine iteT ?_
      refine ⟨_, rfl, _, _, rfl, rfl, wide_mul (a := 64) (b := 64) (by omega) (by omega) (by decide) (by decide) (by decide), _, rfl, z, rfl, _, _, rfl, rfl, _, rfl, _, _, rfl, rfl, .inr ⟨_, rfl, 3, _, rfl, rfl, ?_, _, _, rfl, rfl, _, _, rfl, rfl, (show (0 : Int) < _ by decide), rfl, _, some (.int z), rfl, Int.emod_nonneg _ (by decide), Int.emod_lt_of_pos _ (by decide)⟩⟩
      split <;> exact wide_mul (a := 64) (b := 64) (by decide) (by decide) (by decide) (by decide) (by decide)
    · rw [decide_eq_false hz2]
      refine iteF ?_
      exact ⟨rfl, s, some (.int z), rfl, s0, s1'⟩
  · rintro σ H' ⟨rfl, s, v, rfl, s0, s1'⟩
    refine ⟨.ref a, rfl, 61, rfl, a, _, rfl, s1.seq hS, fun p2 hp2 => ?_⟩
    rw [cut61]
    have s2 := s1.trans (same_new (o := .lst ((ns.take 61).map V.int)) hp2)
    refine ⟨p2, rfl, ⟨_, .of upd_same⟩, fun e ne => ?_⟩
    have ne0 := s2.free ne
    refine lcI (σ := [some (.ref a), some (.int s), v]) (i := 2) absI (fun x => decide (10 ^ 18 ≤ absI x)) (.of upd_same) ne (by rw [List.length_take]; omega) (fun x H Q h => ⟨_, rfl, x, rfl, _, _, rfl, rfl, ⟨by decide, by decide, by decide⟩, _, _, rfl, rfl, _, rfl, h⟩) (fun x H Q h => ⟨_, rfl, x, rfl, h⟩) ?_
    have s3 := s2.trans (same_new (o := .lst ((((ns.take 61).filter fun x => decide (10 ^ 18 ≤ absI x)).map absI).map V.int)) ne)
    refine ⟨_, rfl, (show 3 ≤ sizeLine by decide), fun R nR => ?_⟩
    have nR0 := s3.free nR
    have re : e ≠ R := ne_of_none upd_same nR
    refine q _ R (fun b => b = R ∨ b = e) ⟨((ns.take 61).filter fun x => decide (10 ^ 18 ≤ absI x)).map absI, s, c, ?_, s0, s1'⟩ (s3.trans (same_new nR)) (fun b hb => ?_) rfl ⟨e, re, upd_same, ?_, fun b => Iff.rfl⟩
    · rw [List.length_map]
      refine Nat.le_trans (List.length_filter_le _ _) ?_
      rw [List.length_take]; omega
    · rcases hb with rfl | rfl
      · exact nR0
      · exact ne0
    · rw [upd_ne re]; exact upd_same
theorem open_deal {c : Nat} (hc : c < 1000000) {K : PySem.W.Frag} {cl xc : Nat → Addr} {xf : Nat → Str} {vs : List V} {H : Hp} {Q : VK} {E : XK} (h : spOpenG (jsND K cl xc xf) Few K vs H Q E) : spOpenD c K vs H Q E := by
  obtain ⟨a, ns, e, l, s, q⟩ := h
  exact ⟨a, ns, e, l, s, fun H' R A j sm fr gd rp => q H' R A c sm fr (Nat.le_of_lt hc) ⟨j, Nat.le_of_eq gd, rp⟩⟩
end Mp

/-! NM: what a closure brings about, step by step. -/
namespace Mp
open PySem L2
variable {J : Type}
/-- kept from simp: what a thing of this type hangs on is not rewritten -/
inductive Tg {α β : Sort _} (a : α) (b : β) : Type | mk
/-- a call, a loop: what follows is not looked at -/
def WF (φ : Fv J) (ds : List D) (j : J) (P : D → J → Prop) (E : Ex → J → Prop) (_t : Tg P E := .mk) : Prop := φ ds j P E
def WL (γ : Gv) (fb : Sv J) (ds : List D) (m : Sd) (j : J) (P : Fl → Sd → J → Prop) (E : XP J) (_t : Tg P E := .mk) : Prop := forW γ fb ds m j P E
def WC (wm : Sd) (γ : Gv) (ft : Tv J) (fe : Ev J) (ds : List D) (j : J) (P : List D → J → Prop) (_t : Tg P True := .mk) : Prop := compW wm γ ft fe ds [] j P
def WH (tc : Tv J) (fb : Sv J) (m : Sd) (j : J) (P : Fl → Sd → J → Prop) (E : XP J) (_t : Tg P E := .mk) : Prop := sWhile tc fb m j P E
section
variable {f fa fb fc fe fk : Ev J} {fr : Av J} {t ta tb : Tv J} {s s1 s2 : Sv J} {m : Sd} {j : J} {P : D → J → Prop} {PT : Bool → J → Prop} {PA : List D → J → Prop} {PO : Option Int → J → Prop} {PS : Fl → Sd → J → Prop} {E : XP J} {i k l : Nat} {d : D} {fl fh : Pv J} {fi : Iv J} {γ : Gv} {φ ψ : D → D → Option D} {χ : D → Option D}
@[simp ↓] theorem a_var : eVar i m j P E = ∃ d, m[i]? = some (some d) ∧ P d j := rfl
@[simp ↓] theorem a_c : eC d m j P E = P d j := rfl
@[simp ↓] theorem a_op : eOp φ fa fb m j P E = fa m j (fun x j1 => fb m j1 (fun y j2 => ∃ z, φ x y = some z ∧ P z j2) E) E := rfl
@[simp ↓] theorem a_mt : eMt φ fa fb m j P E = fa m j (fun x j1 => isSq x ∧ fb m j1 (fun y j2 => ∃ z, φ x y = some z ∧ P z j2) E) E := rfl
@[simp ↓] theorem a_un : eUn χ fa m j P E = fa m j (fun x j1 => ∃ z, χ x = some z ∧ P z j1) E := rfl
@[simp ↓] theorem a_nl : aNil m j PA E = PA [] j := rfl
@[simp ↓] theorem a_cs : aCons fa fr m j PA E = fa m j (fun x j1 => fr m j1 (fun xs j2 => PA (x :: xs) j2) E) E := rfl
@[simp ↓] theorem a_tup : eTup fr m j P E = fr m j (fun xs j1 => xs.length ≤ LINE ∧ P (.tup xs) j1) E := rfl
@[simp ↓] theorem a_lst : eLst fr m j P E = fr m j (fun xs j1 => xs.length ≤ LINE ∧ P (.lst xs) j1) E := rfl
@[simp ↓] theorem a_b {χ : List D → Option D} : eB χ fr m j P E = fr m j (fun xs j1 => ∃ z, χ xs = some z ∧ P z j1) E := rfl
@[simp ↓] theorem a_call {φ : Fv J} : eCall φ fr m j P E = fr m j (fun xs j1 => WF φ xs j1 P (fun e j' => E e m j')) E := rfl
@[simp ↓] theorem a_callM {φ : Fv J} : eCallM φ fr m j P E = fr m j (fun xs j1 => WF φ xs j1 P (fun _ _ => False)) E := rfl
@[simp ↓] theorem a_pn : pNone m j PO E = PO none j := rfl
@[simp ↓] theorem a_ps : pSome f m j PO E = f m j (fun d j1 => ∃ i, d = .int i ∧ PO (some i) j1) E := rfl
@[simp ↓] theorem a_sl {φ : D → Option Int → Option Int → Option D} : eSl φ fa fl fh m j P E = fa m j (fun x j1 => fl m j1 (fun l j2 => fh m j2 (fun u j3 => ∃ z, φ x l u = some z ∧ P z j3) E) E) E := rfl
@[simp ↓] theorem a_if : eIf t fa fb m j P E = t m j (fun b j1 => if b = true then fa m j1 P E else fb m j1 P E) E := rfl
@[simp ↓] theorem a_to : tOf fa m j PT E = fa m j (fun x j1 => ∃ b, truD x = some b ∧ PT b j1) E := rfl
@[simp ↓] theorem a_tb : tBl fa m j PT E = fa m j (fun x j1 => ∃ b, x = .bl b ∧ PT b j1) E := rfl
@[simp ↓] theorem a_ta : tAndD ta tb m j PT E = ta m j (fun b j1 => if b = true then tb m j1 PT E else PT false j1) E := rfl
@[simp ↓] theorem a_tor : tOrD ta tb m j PT E = ta m j (fun b j1 => if b = true then PT true j1 else tb m j1 PT E) E := rfl
@[simp ↓] theorem a_tn : tNotD ta m j PT E = ta m j (fun b j1 => PT (!b) j1) E := rfl
@[simp ↓] theorem a_ty : tYesD m j PT E = PT true j := rfl
@[simp ↓] theorem a_ch : eChain φ ψ fa fb fc m j P E = fa m j (fun x j1 => fb m j1 (fun y j2 => ∃ b, φ x y = some (.bl b) ∧ if b = true then fc m j2 (fun z j3 => ∃ d, ψ y z = some d ∧ P d j3) E else P (.bl false) j2) E) E := rfl
@[simp ↓] theorem a_and : eAnd fa fb m j P E = fa m j (fun x j1 => ∃ b, truD x = some b ∧ if b = true then fb m j1 P E else P x j1) E := rfl
@[simp ↓] theorem a_or : eOr fa fb m j P E = fa m j (fun x j1 => ∃ b, truD x = some b ∧ if b = true then P x j1 else fb m j1 P E) E := rfl
@[simp ↓] theorem a_not : eNot fa m j P E = fa m j (fun x j1 => ∃ b, truD x = some b ∧ P (.bl (!b)) j1) E := rfl
@[simp ↓] theorem a_iseq : iSeq f m j PA E = f m j (fun d j1 => ∃ xs, seqL d = some xs ∧ PA xs j1) E := rfl
@[simp ↓] theorem a_ir1 : iRng1 f m j PA E = f m j (fun d j1 => ∃ n, d = .int n ∧ -LIM ≤ n ∧ n ≤ LIM ∧ PA (rngD 0 n.toNat) j1) E := rfl
@[simp ↓] theorem a_ir2 : iRng2 fa fb m j PA E = fa m j (fun d j1 => fb m j1 (fun d2 j2 => ∃ a b, d = .int a ∧ d2 = .int b ∧ -LIM ≤ a ∧ a ≤ LIM ∧ -LIM ≤ b ∧ b ≤ LIM ∧ PA (rngD a (b - a).toNat) j2) E) E := rfl
@[simp ↓] theorem a_ien : iEnm f m j PA E = f m j (fun d j1 => ∃ xs, d = .lst xs ∧ PA (enumD xs) j1) E := rfl
@[simp ↓] theorem a_izp : iZip fa fb m j PA E = fa m j (fun x j1 => fb m j1 (fun y j2 => ∃ zs, zipO x y = some zs ∧ PA zs j2) E) E := rfl
@[simp ↓] theorem a_lrg : eLrg fi m j P E = fi m j (fun ds j1 => ds.length ≤ LINE ∧ P (.lst ds) j1) E := rfl
@[simp ↓] theorem a_trg : eTrg fi m j P E = fi m j (fun ds j1 => ds.length ≤ LINE ∧ P (.tup ds) j1) E := rfl
@[simp ↓] theorem a_comp {vs : List Nat} : eComp vs fi γ t fe m j P E = fi m j (fun ds j1 => ds.length ≤ LINE ∧ WC (wipeD m vs) γ t fe ds j1 (fun ys j2 => P (.lst ys) j2)) E := rfl
@[simp ↓] theorem a_snil : sNil m j PS E = PS .next m j := rfl
@[simp ↓] theorem a_sseq : sSeq s1 s2 m j PS E = s1 m j (thenS s2 PS E) E := rfl
@[simp ↓] theorem a_th_n : thenS s2 PS E .next m j = s2 m j PS E := rfl
@[simp ↓] theorem a_th_b : thenS s2 PS E .brk m j = PS .brk m j := rfl
@[simp ↓] theorem a_th_c : thenS s2 PS E .cnt m j = PS .cnt m j := rfl
@[simp ↓] theorem a_th_r : thenS s2 PS E (.ret d) m j = PS (.ret d) m j := rfl
@[simp ↓] theorem a_sexp : sExpr f m j PS E = f m j (fun _ j1 => PS .next m j1) E := rfl
@[simp ↓] theorem a_sbrk : sBrk m j PS E = PS .brk m j := rfl
@[simp ↓] theorem a_scnt : sCnt m j PS E = PS .cnt m j := rfl
@[simp ↓] theorem a_snev : sNever m j PS E = False := rfl
@[simp ↓] theorem a_sret : sRet f m j PS E = f m j (fun d j1 => PS (.ret d) m j1) E := rfl
@[simp ↓] theorem a_srN : sRetN m j PS E = PS (.ret .non) m j := rfl
@[simp ↓] theorem a_sif : sIf t s1 s2 m j PS E = t m j (fun b j1 => if b = true then s1 m j1 PS E else s2 m j1 PS E) E := rfl
@[simp ↓] theorem a_sset : sSet i f m j PS E = f m j (fun d j1 => PS .next (m.set i (some d)) j1) E := rfl
@[simp ↓] theorem a_sasg : sAsg γ f m j PS E = f m j (fun d j1 => ∃ m1, γ d m = some m1 ∧ PS .next m1 j1) E := rfl
@[simp ↓] theorem a_saug : sAug φ i f m j PS E = ∃ x, m[i]? = some (some x) ∧ f m j (fun y j1 => ∃ z, φ x y = some z ∧ PS .next (m.set i (some z)) j1) E := rfl
@[simp ↓] theorem a_sfor : sFor fi γ s m j PS E = fi m j (fun ds j1 => WL γ s ds m j1 PS E) E := rfl
@[simp ↓] theorem a_swh : sWhile t s m j PS E = WH t s m j PS E := rfl
@[simp ↓] theorem a_spr2 : sPr2 i k fa fb m j PS E = fa m j (fun x j1 => fb m j1 (fun y j2 => PS .next ((m.set i (some x)).set k (some y)) j2) E) E := rfl
@[simp ↓] theorem a_spr3 : sPr3 i k l fa fb fc m j PS E = fa m j (fun x j1 => fb m j1 (fun y j2 => fc m j2 (fun z j3 => PS .next (((m.set i (some x)).set k (some y)).set l (some z)) j3) E) E) E := rfl
@[simp ↓] theorem a_sapp : sApp i f m j PS E = ∃ xs, m[i]? = some (some (.lst xs)) ∧ f m j (fun d j1 => xs.length < LINE ∧ PS .next (m.set i (some (.lst (xs ++ [d])))) j1) E := rfl
@[simp ↓] theorem a_sext : sExt i f m j PS E = ∃ xs, m[i]? = some (some (.lst xs)) ∧ f m j (fun d j1 => ∃ ys, d = .lst ys ∧ xs.length + ys.length ≤ LINE ∧ PS .next (m.set i (some (.lst (xs ++ ys)))) j1) E := rfl
@[simp ↓] theorem a_ssix : sSetIx i fk fe m j PS E = ∃ xs, m[i]? = some (some (.lst xs)) ∧ fe m j (fun d j1 => fk m j1 (fun kk j2 => ∃ k n, kk = .int k ∧ ixN xs.length k = some n ∧ PS .next (m.set i (some (.lst (xs.set n d)))) j2) E) E := rfl
@[simp ↓] theorem a_sapo : sAppPop i k f m j PS E = ∃ xs ys, m[i]? = some (some (.lst xs)) ∧ m[k]? = some (some (.lst ys)) ∧ i ≠ k ∧ f m j (fun d j1 => ∃ n y, d = .int n ∧ 0 ≤ n ∧ n < (ys.length : Int) ∧ xs.length < LINE ∧ ys.length ≤ LINE ∧ ys[n.toNat]? = some y ∧
    PS .next ((m.set k (some (.lst (ys.eraseIdx n.toNat)))).set i (some (.lst (xs ++ [y])))) j1) E := rfl
@[simp ↓] theorem a_spop : sPopTo i γ m j PS E = ∃ xs y m1, m[i]? = some (some (.lst xs)) ∧ xs.getLast? = some y ∧ γ y (m.set i (some (.lst xs.dropLast))) = some m1 ∧ PS .next m1 j := rfl
@[simp ↓] theorem a_spopa : sPopAt i f γ m j PS E = ∃ ys, m[i]? = some (some (.lst ys)) ∧ f m j (fun d j1 => ∃ n y m1, d = .int n ∧ 0 ≤ n ∧ n < (ys.length : Int) ∧ ys.length ≤ LINE ∧ ys[n.toNat]? = some y ∧ γ y (m.set i (some (.lst (ys.eraseIdx n.toNat)))) = some m1 ∧ PS .next m1 j1) E := rfl
theorem a_run {k n : Nat} {ds : List D} {E : Ex → J → Prop} (hl : ds.length = n) (h : s (startD k ds) j (endF P) (fun e _ j' => E e j')) : WF (runF k n s) ds j P E := ⟨hl, h⟩
@[simp ↓] theorem a_ef_r : endF P (.ret d) m j = P d j := rfl
@[simp ↓] theorem a_ef_n : endF P .next m j = P .non j := rfl
variable {N : Sd → J → Prop}
@[simp ↓] theorem a_tu_n : turnS N PS .next m j = N m j := rfl
@[simp ↓] theorem a_tu_c : turnS N PS .cnt m j = N m j := rfl
@[simp ↓] theorem a_tu_b : turnS N PS .brk m j = PS .next m j := rfl
@[simp ↓] theorem a_tu_r : turnS N PS (.ret d) m j = PS (.ret d) m j := rfl
end
/-- the slots are so (kept from simp) -/
def Is (m n : Sd) : Prop := m = n
/-! ### loops -/
section
variable {s : Sv J} {t : Tv J} {f : Ev J} {m wm : Sd} {j : J} {PS : Fl → Sd → J → Prop} {E : XP J} {γ : Gv} {P : List D → J → Prop}
theorem WF.mo {φ : Fv J} [h : MoF φ] {ds : List D} {P P' : D → J → Prop} {E E' : Ex → J → Prop} (h1 : WF φ ds j P E) (q : ∀ d j', P d j' → P' d j') (x : ∀ e j', E e j' → E' e j') : WF φ ds j P' E' := h.mo h1 q x
theorem wL_aux [h : MoS s] {Pv : Nat → Sd → J → Prop} {all : List D} (hs : ∀ k d m j, all[k]? = some d → Pv k m j → ∃ m1, γ d m = some m1 ∧ s m1 j (turnS (fun m2 j2 => Pv (k + 1) m2 j2) PS) E) (hd : ∀ m j, Pv all.length m j → PS .next m j) :
    ∀ (ds : List D) (k : Nat) (m : Sd) (j : J), all.drop k = ds → k ≤ all.length → Pv k m j → forW γ s ds m j PS E
  | [], k, m, j, e, hk, p => by
    have h0 := congrArg List.length e
    simp at h0
    have : k = all.length := by omega
    subst this
    exact hd m j p
  | d :: ds, k, m, j, e, hk, p => by
    have hlt : k < all.length := by
      have := congrArg List.length e
      simp at this; omega
    have hg : all[k]? = some d := by
      rw [List.drop_eq_getElem_cons hlt] at e
      rw [List.getElem?_eq_getElem hlt]
      exact congrArg some (List.cons.inj e).1
    obtain ⟨m1, e1, q⟩ := hs k d m j hg p
    refine ⟨m1, e1, h.mo q (turnS_mo (fun m2 j2 p2 => wL_aux hs hd ds (k + 1) m2 j2 ?_ hlt p2) fun _ _ _ z => z) fun _ _ _ z => z⟩
    rw [List.drop_eq_getElem_cons hlt] at e
    exact (List.cons.inj e).2
/-- a for by its invariant: Pv k m j holds where k items are done -/
theorem wL_inv [MoS s] {ds : List D} (Pv : Nat → Sd → J → Prop) (h0 : Pv 0 m j) (hs : ∀ k d m j, ds[k]? = some d → Pv k m j → ∃ m1, γ d m = some m1 ∧ s m1 j (turnS (fun m2 j2 => Pv (k + 1) m2 j2) PS) E) (hd : ∀ m j, Pv ds.length m j → PS .next m j) :
    WL γ s ds m j PS E := wL_aux hs hd ds 0 m j rfl (Nat.zero_le _) h0
theorem wC_aux [ht : MoT t] [hf : MoE f] {Pv : Nat → List D → J → Prop} {all : List D} (hs : ∀ k d acc j, all[k]? = some d → Pv k acc j → ∃ m1, γ d wm = some m1 ∧ t m1 j (fun b j1 => if b = true then f m1 j1 (fun y j2 => Pv (k + 1) (acc ++ [y]) j2) xNo else Pv (k + 1) acc j1) xNo) (hd : ∀ ys j, Pv all.length ys j → P ys j) :
    ∀ (ds : List D) (k : Nat) (acc : List D) (j : J), all.drop k = ds → k ≤ all.length → Pv k acc j → compW wm γ t f ds acc j P
  | [], k, acc, j, e, hk, p => by
    have h0 := congrArg List.length e
    simp at h0
    have : k = all.length := by omega
    subst this
    exact hd acc j p
  | d :: ds, k, acc, j, e, hk, p => by
    have hlt : k < all.length := by
      have := congrArg List.length e
      simp at this; omega
    have hg : all[k]? = some d := by
      rw [List.drop_eq_getElem_cons hlt] at e
      rw [List.getElem?_eq_getElem hlt]
      exact congrArg some (List.cons.inj e).1
    have ed : all.drop (k + 1) = ds := by
      rw [List.drop_eq_getElem_cons hlt] at e
      exact (List.cons.inj e).2
    obtain ⟨m1, e1, q⟩ := hs k d acc j hg p
    exact ⟨m1, e1, ht.mo q (fun _ _ p => ite_mono p (fun p => hf.mo p (fun y j2 p2 => wC_aux hs hd ds (k + 1) _ j2 ed hlt p2) fun _ _ _ z => z) fun p => wC_aux hs hd ds (k + 1) _ _ ed hlt p) fun _ _ _ z => z⟩
/-- a comprehension by its invariant: k items are looked at, acc is made -/
theorem wC_inv [MoT t] [MoE f] {ds : List D} (Pv : Nat → List D → J → Prop) (h0 : Pv 0 [] j) (hs : ∀ k d acc j, ds[k]? = some d → Pv k acc j → ∃ m1, γ d wm = some m1 ∧ t m1 j (fun b j1 => if b = true then f m1 j1 (fun y j2 => Pv (k + 1) (acc ++ [y]) j2) xNo else Pv (k + 1) acc j1) xNo)
    (hd : ∀ ys j, Pv ds.length ys j → P ys j) : WC wm γ t f ds j P := wC_aux hs hd ds 0 [] j rfl (Nat.zero_le _) h0
/-- a comprehension over L, each item by itself -/
theorem wC_map [MoE f] {α : Type} {L : List α} {c : α → D} (h : α → D) (hs : ∀ x ∈ L, ∃ m1, γ (c x) wm = some m1 ∧ f m1 j (fun y j2 => y = h x ∧ j2 = j) xNo) (hd : P (L.map h) j) : WC wm γ tYesD f (L.map c) j P := by
  refine wC_inv (fun k acc j' => acc = (L.take k).map h ∧ j' = j) ⟨rfl, rfl⟩ (fun k d acc j' e ⟨e1, e2⟩ => ?_) fun ys j' ⟨e1, e2⟩ => ?_
  · rw [List.getElem?_map, Option.map_eq_some_iff] at e
    obtain ⟨x, hx, rfl⟩ := e
    subst e1 e2
    obtain ⟨m1, e3, q⟩ := hs x (List.mem_of_getElem? hx)
    refine ⟨m1, e3, ?_⟩
    show f m1 j' _ xNo
    refine MoE.mo q (fun y j2 ⟨e4, e5⟩ => ?_) fun _ _ _ z => z
    subst e4 e5
    refine ⟨?_, rfl⟩
    rw [List.take_add_one, hx]
    simp
  · rw [List.length_map, List.take_length] at e1
    rw [e1, e2]; exact hd
/-- .. those that pass a test -/
theorem wC_filter [MoT t] [MoE f] {α : Type} {L : List α} {c : α → D} (p : α → Bool) (h : α → D) (hs : ∀ x ∈ L, ∃ m1, γ (c x) wm = some m1 ∧ t m1 j (fun b j1 => b = p x ∧ j1 = j) xNo ∧ (p x = true → f m1 j (fun y j2 => y = h x ∧ j2 = j) xNo)) (hd : P ((L.filter p).map h) j) : WC wm γ t f (L.map c) j P := by
  refine wC_inv (fun k acc j' => acc = ((L.take k).filter p).map h ∧ j' = j) ⟨rfl, rfl⟩ (fun k d acc j' e ⟨e1, e2⟩ => ?_) fun ys j' ⟨e1, e2⟩ => ?_
  · rw [List.getElem?_map, Option.map_eq_some_iff] at e
    obtain ⟨x, hx, rfl⟩ := e
    subst e1 e2
    obtain ⟨m1, e3, q, r⟩ := hs x (List.mem_of_getElem? hx)
    refine ⟨m1, e3, MoT.mo q (fun b j1 ⟨e4, e5⟩ => ?_) fun _ _ _ z => z⟩
    subst e4 e5
    rw [List.take_add_one, hx]
    cases hp : p x with
    | true =>
      refine MoE.mo (r hp) (fun y j2 ⟨e6, e7⟩ => ?_) fun _ _ _ z => z
      subst e6 e7
      exact ⟨by simp [hp], rfl⟩
    | false => exact ⟨by simp [hp], rfl⟩
  · rw [List.length_map, List.take_length] at e1
    rw [e1, e2]; exact hd
theorem nrng {k : Nat} : rngD 0 k = (List.range k).map fun i => D.int ((i : Nat) : Int) := by unfold rngD; simp
theorem wC_rngF [MoT t] [MoE f] {k : Nat} (p : Nat → Bool) (h : Nat → D) (hs : ∀ i, i < k → ∃ m1, γ (.int ((i : Nat) : Int)) wm = some m1 ∧ t m1 j (fun b j1 => b = p i ∧ j1 = j) xNo ∧ (p i = true → f m1 j (fun y j2 => y = h i ∧ j2 = j) xNo)) (hd : P (((List.range k).filter p).map h) j) : WC wm γ t f (rngD 0 k) j P := by
  rw [nrng]
  exact wC_filter p h (fun x hx => hs x (List.mem_range.mp hx)) hd
theorem wH_aux [ht : MoT t] [hs : MoS s] {Pv : Nat → Sd → J → Prop} (hw : ∀ k m j, Pv k m j → t m j (fun b j1 => if b = true then s m j1 (turnS (fun m2 j2 => ∃ k', k' < k ∧ Pv k' m2 j2) PS) E else PS .next m j1) E) : ∀ (n k : Nat) (m : Sd) (j : J), k < n → Pv k m j → whW t s n m j PS E
  | 0, k, m, j, h, _ => absurd h (Nat.not_lt_zero _)
  | n + 1, k, m, j, h, p => ht.mo (hw k m j p) (fun b j1 q => ite_mono q (fun q => hs.mo q (turnS_mo (fun m2 j2 ⟨k', l, p'⟩ => wH_aux hw n k' m2 j2 (by omega) p') fun _ _ _ z => z) fun _ _ _ z => z) fun q => q) fun _ _ _ z => z
/-- a while by its invariant and a number that falls -/
theorem wH_inv [MoT t] [MoS s] (Pv : Nat → Sd → J → Prop) (n : Nat) (h0 : Pv n m j) (hw : ∀ k m j, Pv k m j → t m j (fun b j1 => if b = true then s m j1 (turnS (fun m2 j2 => ∃ k', k' < k ∧ Pv k' m2 j2) PS) E else PS .next m j1) E) : WH t s m j PS E := ⟨n + 1, wH_aux hw (n + 1) n m j (Nat.lt_succ_self _) h0⟩
/-- what holds between two statements -/
theorem wSeq [h1 : MoS s] {s2 : Sv J} (R : Fl → Sd → J → Prop) (h : s m j R E) (q : ∀ l m' j', R l m' j' → thenS s2 PS E l m' j') : sSeq s s2 m j PS E := h1.mo h q fun _ _ _ z => z
end
@[simp] theorem exS {α : Type} {a : α} {P : α → Prop} : (∃ z, some a = some z ∧ P z) ↔ P a := by
  constructor
  · rintro ⟨z, e, p⟩; cases e; exact p
  · intro p; exact ⟨a, rfl, p⟩
@[simp] theorem gN_i {i : Nat} {d : D} {m : Sd} : gNm i d m = some (m.set i (some d)) := rfl
@[simp] theorem gT_i {γ : Gvs} {ds : List D} {m : Sd} : gTp γ (.tup ds) m = γ ds m := rfl
@[simp] theorem gC_i {γ : Gv} {γs : Gvs} {d : D} {ds : List D} {m : Sd} : gsCons γ γs (d :: ds) m = (match γ d m with | some m1 => γs ds m1 | none => none) := rfl
@[simp] theorem g0_i {m : Sd} : gsNil [] m = some m := rfl
@[simp] theorem wp_0 {m : Sd} : wipeD m [] = m := rfl
@[simp] theorem wp_1 {m : Sd} {v : Nat} {vs : List Nat} : wipeD m (v :: vs) = (wipeD m vs).set v none := rfl
@[simp] theorem add_i {a b : Int} : addD (.int a) (.int b) = some (.int (a + b)) := rfl
@[simp] theorem sub_i {a b : Int} : subD (.int a) (.int b) = some (.int (a - b)) := rfl
theorem mul_i {a b : Int} (ha : sm a = true) (hb : sm b = true) : mulD (.int a) (.int b) = some (.int (a * b)) := by unfold mulD; simp [sg_sm ha, sg_sm hb]
theorem mul_g {a b : Int} (ha : sg a = true) (hb : sg b = true) : mulD (.int a) (.int b) = some (.int (a * b)) := by unfold mulD; simp [ha, hb]
theorem div_i {a b : Int} (h0 : 0 < b) (hb : sm b = true) : fdivD (.int a) (.int b) = some (.int (a / b)) := by unfold fdivD; simp [h0, hb]
theorem mod_i {a b : Int} (h0 : 0 < b) : modD (.int a) (.int b) = some (.int (a % b)) := by unfold modD; simp [h0]
@[simp] theorem neg_i {a : Int} : negD (.int a) = some (.int (-a)) := rfl
@[simp] theorem lt_i {a b : Int} : ltD (.int a) (.int b) = some (.bl (decide (a < b))) := rfl
@[simp] theorem le_i {a b : Int} : leD (.int a) (.int b) = some (.bl (decide (a ≤ b))) := rfl
@[simp] theorem gt_i {a b : Int} : gtD (.int a) (.int b) = some (.bl (decide (b < a))) := rfl
@[simp] theorem ge_i {a b : Int} : geD (.int a) (.int b) = some (.bl (decide (b ≤ a))) := rfl
@[simp] theorem eq_i {a b : Int} : eqD (.int a) (.int b) = some (.bl (decide (a = b))) := rfl
@[simp] theorem ne_i {a b : Int} : neD (.int a) (.int b) = some (.bl (!decide (a = b))) := rfl
@[simp] theorem eq_s {a b : Str} : eqD (.str a) (.str b) = some (.bl (decide (a = b))) := rfl
@[simp] theorem ne_s {a b : Str} : neD (.str a) (.str b) = some (.bl (!decide (a = b))) := rfl
@[simp] theorem eq_b {a b : Bool} : eqD (.bl a) (.bl b) = some (.bl (decide (a = b))) := rfl
@[simp] theorem ne_b {a b : Bool} : neD (.bl a) (.bl b) = some (.bl (!decide (a = b))) := rfl
@[simp] theorem len_l {xs : List D} : lenB [.lst xs] = some (.int xs.length) := rfl
@[simp] theorem len_t {xs : List D} : lenB [.tup xs] = some (.int xs.length) := rfl
@[simp] theorem tup_l {xs : List D} : tupleB [.lst xs] = some (.tup xs) := rfl
@[simp] theorem tup_t {xs : List D} : tupleB [.tup xs] = some (.tup xs) := rfl
@[simp] theorem lst_l {xs : List D} : listB [.lst xs] = some (.lst xs) := rfl
@[simp] theorem lst_t {xs : List D} : listB [.tup xs] = some (.lst xs) := rfl
@[simp] theorem rev_t {xs : List D} : revD (.tup xs) = some (.tup xs.reverse) := rfl
@[simp] theorem rev_l {xs : List D} : revD (.lst xs) = some (.lst xs.reverse) := rfl
@[simp] theorem rev_L {xs : List D} : revL (.lst xs) = some (.lst xs.reverse) := rfl
@[simp] theorem max_i {a b : Int} : maxB [.int a, .int b] = some (.int (if b > a then b else a)) := rfl
@[simp] theorem min_i {a b : Int} : minB [.int a, .int b] = some (.int (if b < a then b else a)) := rfl
theorem atI_nat {α : Type} {xs : List α} {i : Nat} {x : α} (h : xs[i]? = some x) : atI xs ((i : Nat) : Int) = some x := by
  obtain ⟨hl, _⟩ := List.getElem?_eq_some_iff.mp h
  unfold atI ixN
  rw [if_pos (Int.natCast_nonneg _), if_pos (by omega), Option.bind_some, Int.toNat_natCast, h]
theorem idx_t {xs : List D} {i : Nat} {x : D} (h : xs[i]? = some x) : idxD (.tup xs) (.int ((i : Nat) : Int)) = some x := atI_nat h
theorem idx_l {xs : List D} {i : Nat} {x : D} (h : xs[i]? = some x) : idxD (.lst xs) (.int ((i : Nat) : Int)) = some x := atI_nat h
theorem sm_of {i : Int} (h1 : -(10 ^ 59) ≤ i) (h2 : i ≤ 10 ^ 59) : sm i = true := sm_iff.mpr ⟨by omega, by omega⟩
@[simp] theorem seq_l {xs : List D} : seqL (.lst xs) = some xs := rfl
@[simp] theorem seq_t {xs : List D} : seqL (.tup xs) = some xs := rfl
@[simp] theorem isq_l {xs : List D} : isSq (.lst xs) = True := rfl
@[simp] theorem isq_t {xs : List D} : isSq (.tup xs) = True := rfl
@[simp] theorem zip_l {xs ys : List D} : zipO (.lst xs) (.lst ys) = some (zipD xs ys) := rfl
@[simp] theorem zip_t {xs ys : List D} : zipO (.tup xs) (.tup ys) = some (zipD xs ys) := rfl
@[simp] theorem addI_i {a b : Int} : addI (.int a) (.int b) = some (.int (a + b)) := rfl
@[simp] theorem subI_i {a b : Int} : subI (.int a) (.int b) = some (.int (a - b)) := rfl
/-! repr -/
mutual
/-- plain data of small ints -/
def shw : D → Bool
  | .non => true
  | .bl _ => true
  | .int i => sm i
  | .tup xs => shwL xs
  | .lst xs => shwL xs
  | _ => false
def shwL : List D → Bool
  | [] => true
  | x :: xs => shw x && shwL xs
end
mutual
/-- more than the length of its repr -/
def szD : D → Nat
  | .tup xs => szL xs + 4
  | .lst xs => szL xs + 4
  | _ => 70
def szL : List D → Nat
  | [] => 0
  | x :: xs => szD x + 2 + szL xs
end
mutual
def dpD : D → Nat
  | .tup xs => dpL xs + 1
  | .lst xs => dpL xs + 1
  | _ => 0
def dpL : List D → Nat
  | [] => 0
  | x :: xs => max (dpD x) (dpL xs)
end
theorem int_len {i : Int} (h : sm i = true) : (PyData.shown (.int i)).length ≤ 70 := by
  have h := sm_iff.mp h
  have e := int_text_length_le10 (a := i) (k := 60) (by decide) (by omega)
  show (Str.ofString (toString i)).length ≤ 70
  rw [PySem.ofString_length]
  exact Nat.le_trans e (by decide)
mutual
theorem py_ok : ∀ (d : D), shw d = true → ∃ p, py d = some p ∧ p.showable = true ∧ p.depth = dpD d ∧ p.shown.length ≤ szD d
  | .non, _ => ⟨_, rfl, rfl, rfl, by decide⟩
  | .bl b, _ => ⟨_, rfl, rfl, rfl, by cases b <;> decide⟩
  | .int i, h => ⟨_, rfl, by
      have h' : sm i = true := h
      show decide _ = true
      rw [decide_eq_true_eq]
      exact Nat.lt_of_lt_of_le (sm_log h') (by decide), rfl, int_len h⟩
  | .tup xs, h => by
    obtain ⟨ps, h1, h2, h3, h4, h5⟩ := pyL_ok xs h
    refine ⟨.tuple ps, by unfold py; rw [h1], h2, by show PyData.depthAll ps + 1 = _; rw [h3]; rfl, ?_⟩
    have := tupleText_len_le (PyData.shownAll ps)
    show (tupleText (PyData.shownAll ps)).length ≤ szL xs + 4
    omega
  | .lst xs, h => by
    obtain ⟨ps, h1, h2, h3, h4, h5⟩ := pyL_ok xs h
    refine ⟨.list ps, by unfold py; rw [h1], h2, by show PyData.depthAll ps + 1 = _; rw [h3]; rfl, ?_⟩
    have := listText_len_le (PyData.shownAll ps)
    show (listText (PyData.shownAll ps)).length ≤ szL xs + 4
    omega
  | .str _, h => by cases h
  | .dct _, h => by cases h
  | .jar, h => by cases h
  | .obj _, h => by cases h
  | .ins _ _, h => by cases h
theorem pyL_ok : ∀ (ds : List D), shwL ds = true → ∃ ps, pyL ds = some ps ∧ PyData.showableAll ps = true ∧ PyData.depthAll ps = dpL ds ∧ (PyData.shownAll ps).length = ds.length ∧ ((PyData.shownAll ps).map (·.length)).sum + 2 * (PyData.shownAll ps).length ≤ szL ds
  | [], _ => ⟨[], rfl, rfl, rfl, rfl, by decide⟩
  | d :: ds, h => by
    unfold shwL at h
    rw [Bool.and_eq_true] at h
    obtain ⟨p, a1, a2, a3, a4⟩ := py_ok d h.1
    obtain ⟨ps, h1, h2, h3, h4, h5⟩ := pyL_ok ds h.2
    refine ⟨p :: ps, by unfold pyL; rw [a1, h1], by unfold PyData.showableAll; rw [a2, h2]; rfl, by unfold PyData.depthAll dpL; rw [a3, h3], by unfold PyData.shownAll; simp [h4], ?_⟩
    unfold PyData.shownAll szL
    simp only [List.map_cons, List.sum_cons, List.length_cons]
    omega
end
theorem repr_ok {d : D} (h : shw d = true) (hd : dpD d ≤ 60) (hs : szD d ≤ 1000000) : ∃ x, reprD d = some x := by
  obtain ⟨p, h1, h2, h3, h4⟩ := py_ok d h
  refine ⟨p.shown, ?_⟩
  unfold reprD
  rw [h1]
  have e1 : p.depth ≤ 60 := by omega
  have e2 : p.shown.length ≤ LINE := by have : LINE = 1000000 := rfl; omega
  simp only [h2, e1, e2, decide_true, Bool.and_self, if_true]
theorem reprB_ok {d : D} {P : D → Prop} (h : shw d = true) (hd : dpD d ≤ 60) (hs : szD d ≤ 1000000) (q : ∀ x, reprD d = some x → P (.str x)) : ∃ z, reprB [d] = some z ∧ P z := by
  obtain ⟨x, e⟩ := repr_ok h hd hs
  exact ⟨.str x, by show (match reprD d with | some x => some (D.str x) | none => none) = _; rw [e], q x e⟩
end Mp

/-! NR: more rules: xs[-2::-1] of an owned list. -/
namespace Mp
open PySem PySem.Spec L2
open PyProof.Rows hiding St
variable {J : Type}
section
variable {S : Js J} {B : Bs} {M : Nat → Bool} {W : WX} {X : Cx} {e a b : Expr} {pos : Pos} {fa : Ev J} {x : Str}
def tRev2 (K : PySem.W.Frag) (te : TE) : TE := fun σ H Q => te σ H fun x H1 => ∃ a xs, x = .ref a ∧ SqL K H1 a xs ∧ ∀ p, H1 p = none → Q (.ref p) (upd H1 p (.lst xs.dropLast.reverse))
def rev2L : D → Option D
  | .lst xs => some (.lst xs.dropLast.reverse)
  | _ => none
end
@[simp] theorem rev2_l {xs : List D} : rev2L (.lst xs) = some (.lst xs.dropLast.reverse) := rfl
end Mp

/-! NS: defs with a star parameter. -/
namespace Mp
open PySem PySem.Spec L2
open PyProof.Rows hiding St
variable {J : Type}
/-- an exception that is told from a state with a new tuple is told from the state ahead of it -/
def CXNw (CX : CXT) : Prop := ∀ (outer : List Env) (s : Shared) (H : Hp) (h2 : Heap) (p : Addr) (rest : HO) (E : XK) (e : Value) (s' : Shared), (∀ b o, s.heap.get? b = some o → h2.get? b = some o) → s.heap.objs.size ≤ p → H p = none →
  CX outer (upd H p rest) { s with heap := h2 } E e s' → CX outer H s E e s'
/-- a call's promise, the arguments by position -/
def FnV (P : Program) (w : World) (K : PySem.W.Frag) (mg : Str → Option Value) (base : Heap) (CX : CXT) (k : Nat) (f : Addr) (sp : Sp) : Prop :=
  ∀ (A : Around) (outer : List Env) (s : Shared) (H : Hp) (us : List Value) (vs : List V) (Q : VK) (E : XK), Room k A → A.guards = some [] → Env0 P w K mg base A outer s H → Vals vs us → sp vs H Q E → codeAny (model P w) A (.call (.ref f) ⟨us, []⟩) (CR CX outer P w H s Q E) s
/-! on data -/
def spV (S : Js J) (φ : Fv J) : Sp := fun vs H Q E => ∃ F A j ds P Ep, Same F H ∧ (∀ b o, F b = some o → ¬ A b) ∧ S.rep j F A H ∧ (∃ o u, H sysModules = some (.frz o u)) ∧ RpL S F ds vs ∧ φ ds j P Ep ∧
  (∀ d j' F' A' H' v, P d j' → FPost S F A H F' A' H' j' → Rp S F' d v → Q v H') ∧ (∀ e j' F' A' H' cls dx, Ep e j' → FPost S F A H F' A' H' j' → ExR S F' e cls dx → E cls dx H')
/-- n parameters, then at most x more -/
def runV (k n x : Nat) (f : Sv J) (ds : List D) (j : J) (P : D → J → Prop) (E : Ex → J → Prop) : Prop := n ≤ ds.length ∧ ds.length ≤ n + x ∧ runF k (n + 1) f (ds.take n ++ [.tup (ds.drop n)]) j P E
instance {k n x : Nat} {f : Sv J} [h : MoS f] : MoF (runV k n x f) := ⟨fun ⟨l, l2, p⟩ q y => ⟨l, l2, MoF.mo p q y⟩⟩
theorem RpL.app {S : Js J} {F : Hp} : ∀ {ds es : List D} {vs us : List V}, RpL S F ds vs → RpL S F es us → RpL S F (ds ++ es) (vs ++ us)
  | _, _, _, _, .nil, h => h
  | _, _, _, _, .cons a t, h => .cons a (RpL.app t h)
section
variable {P : Program} {w : World} {K : PySem.W.Frag} {mg : Str → Option Value} {base : Heap} {S : Js J}
/-- a star def that may be called -/
structure CalV (S : Js J) (P : Program) (w : World) (mg : Str → Option Value) (base : Heap) (k : Nat) (x : Str) (φ : Fv J) : Prop where
  ex : ∃ fn, FnV P w S.K mg base (L2.CX P w) k fn (spV S φ) ∧ mg x = some (.ref fn) ∧ PySem.W.keepIn S.K (.ref fn) = true
end
section
variable {S : Js J} {B : Bs} {M : Nat → Bool} {W : WX} {X : Cx} {e : Expr} {es : List Expr} {pos p : Pos} {fr : Av J} {x : Str} {φ : Fv J} {k : Nat} {fn : Addr}
end
/-! ### starred items -/
def seqT : D → Option (List D)
  | .lst xs => some xs
  | .tup xs => some xs
  | _ => none
def aStar (fa : Ev J) (fr : Av J) (m : Sd) (j : J) (P : List D → J → Prop) (E : XP J) : Prop := fa m j (fun x j1 => ∃ xs, seqT x = some xs ∧ fr m j1 (fun ys j2 => P (xs ++ ys) j2) E) E
instance {fa : Ev J} {fr : Av J} [ha : MoE fa] [hb : MoA fr] : MoA (aStar fa fr) := ⟨fun h q x => ha.mo h (fun _ _ ⟨xs, e, h1⟩ => ⟨xs, e, hb.mo h1 (fun _ _ p => q _ _ p) x⟩) x⟩
section
variable {S : Js J} {B : Bs} {M : Nat → Bool} {W : WX} {X : Cx} {e : Expr} {es : List Expr} {p : Pos} {fa : Ev J} {fr : Av J}
theorem a_star {k : Bool} (hK : X.K = S.K) (ha : PE X e (rdE S B M W (ofB k) fa)) (hr : PA X es (rdA S B M W k fr)) (hs : starEach (.Starred e p :: es) X.env = (true, eval e X.env) :: starEach es X.env := by rfl) : PA X (.Starred e p :: es) (rdA S B M W k (aStar fa fr)) :=
  PA.imp (StX.pa_star ha hr hs) fun r H Q ⟨g, m, j, P, E, ok, hf, q, xo⟩ => by
    refine ⟨g, m, j, _, E, ok, hf, ?_, xo⟩
    rintro x j1 g1 v1 H1 ⟨xs, ex, p1⟩ l1 ok1 w1
    have w2 := rp_hp w1
    have hh : Same (hp k g1) H1 := by
      cases k
      · exact ok1.b.gh
      · exact ok1.b.fg.trans ok1.b.gh
    cases x with
    | lst ys =>
      cases ex
      obtain ⟨a, vs, rfl, h1, h2⟩ := lst_of w2
      exact ⟨a, vs, rfl, .inr (.of (hh a _ h1)), ⟨g1, m, _, _, E, ok1, p1, fun zs j2 g2 us H2 p2 l2 ok2 w3 => q _ _ g2 _ H2 p2 (l1.trans l2) ok2 (RpL.app (h2.mono (hp_le l2 k)) w3), xo.le l1.f⟩⟩
    | tup ys =>
      cases ex
      obtain ⟨a, vs, rfl, h1, h2⟩ := tup_of w2
      exact ⟨a, vs, rfl, .inl (hK ▸ sqT_same hh h1.t), ⟨g1, m, _, _, E, ok1, p1, fun zs j2 g2 us H2 p2 l2 ok2 w3 => q _ _ g2 _ H2 p2 (l1.trans l2) ok2 (RpL.app (h2.mono (hp_le l2 k)) w3), xo.le l1.f⟩⟩
    | _ => cases ex
end
/-! ### a, b = a list -/
def gLs (γs : Gvs) : Gv := fun d m => match d with
  | .lst ds => γs ds m
  | _ => none
section
variable {S : Js J} {B : Bs} {M : Nat → Bool} {X : Cx} {es : List Expr} {pos : Pos}
end
end Mp

/-! NT: sorted(set(..)), len(set(..)) of ints. -/
namespace Mp
open PySem PySem.Spec L2
open PyProof.Rows hiding St
section
variable {P : Program} {w : World} {A : Around} {E : Value → Shared → Prop} {s : Shared}
set_option maxRecDepth 100000 in
set_option maxHeartbeats 3200000 in
end
end Mp

/-! NU: sorted(set(..)), len(set(..)) of ints, on data. -/
namespace Mp
open PySem PySem.Spec L2
open PyProof.Rows hiding St
variable {J : Type}
section
open PySem.Spec PyProof.Rows
variable {P : Program} {w : World} {A : Around} {E : Value → Shared → Prop} {s : Shared} {a : Addr}
end
/-- the members, ascending -/
def ssort (ns : List Int) : List Int := isort ns.eraseDups
def ssI (xs : List D) : Option D := match ints? xs with | some ns => if ns.length < 4000 then some (.lst ((ssort ns).map D.int)) else none | none => none
def slI (xs : List D) : Option D := match ints? xs with | some ns => if ns.length < 1000 then some (.int (ssort ns).length) else none | none => none
def sortSetD : D → Option D
  | .lst xs => ssI xs
  | .tup xs => ssI xs
  | _ => none
def lenSetD : D → Option D
  | .lst xs => slI xs
  | _ => none
def tSetOf (K : PySem.W.Frag) (ta : TE) (R : List Int → Hp → VK → Prop) : TE := fun σ H Q => ta σ H fun x H1 => ∃ (l : Addr) (ns : List Int), x = V.ref l ∧ (SqL K H1 l (ns.map V.int) ∨ SqT K H1 l (ns.map V.int)) ∧ ns.length < 4000 ∧ R ns H1 Q
def rSortSet : List Int → Hp → VK → Prop := fun ns H Q => ∀ p : Addr, H p = none → Q (.ref p) (upd H p (.lst ((ssort ns).map V.int)))
section
variable {X : Cx} {a : Expr} {ta : TE} {p p2 q pos : Pos}
def tLenSet (K : PySem.W.Frag) (ta : TE) : TE := fun σ H Q => ta σ H fun x H1 => ∃ (l : Addr) (ns : List Int), x = V.ref l ∧ SqL K H1 l (ns.map V.int) ∧ ns.length < 1000 ∧ Q (.int (ssort ns).length) H1
end
section
variable {S : Js J} {B : Bs} {M : Nat → Bool} {W : WX} {X : Cx} {a : Expr} {fa : Ev J} {p p2 q pos : Pos}
end
end Mp

/-! NX: raise C(e), C an own class with one field; try .. except C as x; in the suite isinstance(x, C), x.f; {}, {'a': 0}. -/
namespace Mp
open PySem PySem.Spec L2
open PyProof.Rows hiding St
variable {J : Type}
/-! ### raise -/
def sRaise (c : Nat) (fe : Ev J) (m : Sd) (j : J) (P : Fl → Sd → J → Prop) (E : XP J) : Prop := fe m j (fun d j1 => E ⟨c, some d⟩ m j1) E
instance {c : Nat} {fe : Ev J} [h1 : MoE fe] : MoS (sRaise c fe) := ⟨fun h q x => h1.mo h (fun _ _ p => x _ _ _ p) x⟩
/-- what an __init__ with one field does -/
def spIni (K : PySem.W.Frag) (f : Str) : Sp := fun vs H Q E => ∃ (a C : Addr) (y : V), vs = [.ref a, y] ∧ OexC K C ∧ PySem.W.findIn K (.ref C) f = some none ∧ H a = some (exo a C none) ∧
  ∀ dx, H dx = none → dx ≠ a → Q .non (upd (upd H dx (exd dx [(f, y)])) a (exo a C (some dx)))
/-- a class that is raised -/
structure XMk (S : Js J) (P : Program) (w : World) (mg : Str → Option Value) (base : Heap) (c : Nat) (x : Str) : Prop where
  ex : ∃ (fI : Addr) (fd : FuncData) (ps : List Str), FnOk P w S.K mg base CX0 1 fI fd ps (spIni S.K (S.xf c)) ∧ PySem.W.findIn S.K (.ref (S.xc c)) "__init__" = some (some (.ref fI)) ∧ PySem.W.typeIn S.K (.ref fI) = some (.type "function") ∧ Binds S.K fd ps []
  T : OexC S.K (S.xc c)
  no : PySem.W.findIn S.K (.ref (S.xc c)) (S.xf c) = some none
  gl : mg x = some (.ref (S.xc c))
theorem ini_ok {P : Program} {w : World} {K : PySem.W.Frag} {mg : Str → Option Value} {base : Heap} {x qual p1 p2 f : Str} {st : Stmt} {fI : Addr} {fd : FuncData} {q1 q2 q3 q4 : Pos} (F : L2.Fun K x qual st fI fd) (Sc : FnScope [p1, p2] [p1, p2] (defScope st))
    (hb : defBody st = [.Assign [.Attribute (.Name p1 q1) f q2] (.Name p2 q3) q4]) (h1 : Vis (defScope st) p1) (h2 : Vis (defScope st) p2) (d1 : (p1 == ("__debug__" : Str)) = false) (d2 : (p2 == ("__debug__" : Str)) = false) (e1 : (p1 == ("__classdict__" : Str)) = false) (e2 : (p2 == ("__classdict__" : Str)) = false) :
    FnOk P w K mg base CX0 1 fI fd [p1, p2] (spIni K f) := by
  refine F.ok Sc (fun vs H Q E h => ?_) fun cdv A outer s H vs Q E hr h => ⟨tOst K f (tVar 0) (tVar 1), ?_, ?_⟩
  · obtain ⟨a, C, y, rfl, _⟩ := h
    rfl
  · rw [hb]
    exact pss_one (ps_ost (pe_var (i := 0) rfl h1 d1 e1) (pe_var (i := 1) rfl h2 d2 e2) rfl)
  · obtain ⟨a, C, y, rfl, T, no, ha, q⟩ := h
    exact ⟨y, rfl, .ref a, rfl, a, C, rfl, T, no, .inl ⟨ha, q⟩⟩
section
variable {S : Js J} {B : Bs} {M : Nat → Bool} {W : WX} {X : Cx} {e : Expr} {pos p p2 : Pos} {fe : Ev J} {x : Str}
theorem mk_heap {H : Hp} {a dx : Addr} {o1 o2 o3 o4 : HO} (ha : H a = none) (hd : dx ≠ a) : upd (del (upd (upd (upd H a o1) dx o2) a o3) a) dx o4 = upd H dx o4 := by
  funext b
  by_cases h1 : b = dx
  · subst h1; rw [upd_same, upd_same]
  · rw [upd_ne h1, upd_ne h1]
    by_cases h2 : b = a
    · subst h2; rw [del_same, ha]
    · rw [del_ne h2, upd_ne h2, upd_ne h1, upd_ne h2]
theorem zRaise (c : Nat) (hK : X.K = S.K) (tk : Takes X W) (C : XMk S X.prog X.w X.mg X.base c x) (hr : Room 2 X.A) (he : PE X e (rdE S B M W .clean fe)) (hcalm : X.calm = true := by rfl) (hg : Gl X x := by rfl) (hdb : (x == ("__debug__" : Str)) = false := by decide)
    (hs : starEach [e] X.env = [(false, eval e X.env)] := by rfl) (hpl : (backTo pos (starEach [] X.env)).any (·.1) = false := by rfl) : PS X (.Raise (some (.Call (.Name x p) [e] [] pos)) none p2) (rdS S B M W (sRaise c fe)) := by
  obtain ⟨fI, fd, ps, F, h1, h2, h3⟩ := C.ex
  refine PS.imp (ps_raise hcalm tk (pmk_oex (ds := []) (dvs := []) (hK ▸ C.T) (hK ▸ h1) (hK ▸ h2) (hK ▸ F) hr (hK ▸ h3) .nil pass0 hg C.gl (a_cons (k := true) he a_nil hs) hdb hs hpl)) fun En r H ⟨g, m, j, P, Ep, ok, hf, q, xo⟩ => ?_
  refine ⟨g, m, j, fun ds j' => match ds with | [d] => Ep ⟨c, some d⟩ m j' | _ => False, Ep, ok, hf, fun ds j1 g1 vs H1 pp l1 ok1 w1 => ?_, xo⟩
  cases w1 with
  | nil => exact pp.elim
  | cons w1 wr =>
    cases wr with
    | cons _ _ => exact pp.elim
    | nil =>
      rename_i d v
      refine ⟨by simp, fun a na => ?_⟩
      refine ⟨a, S.xc c, v, rfl, hK ▸ C.T, hK ▸ C.no, upd_same, fun dx hdx hne => ⟨rfl, dx, [(S.xf c, v)], upd_same, ?_, ?_, ?_⟩⟩
      · rw [upd_ne hne, upd_same]
      · rw [upd_ne hne] at hdx; exact hdx
      · have nd : H1 dx = none := by rw [upd_ne hne] at hdx; exact hdx
        rw [mk_heap na hne]
        obtain ⟨n1, n2, n3, n4⟩ := ok1.b.hn nd
        have l2 : Le g1 (g1.frz dx (.xd [(S.xf c, v)])) := Le.frz ok1.b.fg n2
        exact xo _ _ _ _ _ _ _ _ pp (l1.f.trans l2.f) ⟨ok1.b.frz _ nd, ok1.s.le l2⟩ ⟨rfl, dx, v, rfl, upd_same, Rp.mono l2.f w1⟩
end

/-! ### what is known of the classes -/
structure XCl (K : PySem.W.Frag) (C : Addr) : Prop where
  ga : PySem.W.findIn K (.ref C) "__getattribute__" = some (some (.builtin "BaseException.__getattribute__"))
  gg : PySem.W.findIn K (.ref C) "__getattr__" = some none
  exC : PySem.W.subIn K (.ref C) (.type "BaseException") = some true
  hdC : PySem.W.hasDictIn K C = true
  ha : PySem.W.findIn K (.ref C) "__class__" = some (some (.builtin "object.__class__"))
  hn : PySem.W.specialIn K (.builtin "object.__class__") "__get__" = some (some (.builtin "getset_descriptor.__get__"))
  ht : PySem.W.takesIn K (.builtin "object.__class__") = some true
  hm : PySem.W.mroIn K C (.type "object") = some true
  ty : PySem.W.typeIn K (.ref C) = some (.type "type")
  ve : PySem.W.subIn K (.ref C) (.type "ValueError") = some true
theorem XCl.isSome {K : PySem.W.Frag} {C : Addr} (h : XCl K C) : (PySem.W.clsIn K C).isSome = true := by
  obtain ⟨cd, hc, _⟩ := PySem.W.any_some h.hdC
  rw [hc]; rfl
/-- n own classes, by numbers; tT tells which is below which -/
structure XT (K : PySem.W.Frag) (mg : Str → Option Value) (xc : Nat → Addr) (tT : Nat → Nat → Bool) (n : Nat) (names : List (Str × Nat)) (attrs : List Str) : Prop where
  gl : ∀ p ∈ names, mg p.1 = some (.ref (xc p.2)) ∧ p.2 < n
  cl : ∀ c, XCl K (xc c)
  no : ∀ f ∈ attrs, ∀ c, PySem.W.findIn K (.ref (xc c)) f = some none
  su : ∀ c k, k < n → PySem.W.subIn K (.ref (xc c)) (.ref (xc k)) = some (tT c k)
  rf : ∀ k, k < n → tT k k = true
section
variable {K : PySem.W.Frag} {mg : Str → Option Value} {xc : Nat → Addr} {tT : Nat → Nat → Bool} {n : Nat} {names : List (Str × Nat)} {attrs : List Str}
theorem XT.kit (T : XT K mg xc tT n names attrs) (c : Nat) {k : Nat} (hk : k < n) : PySem.W.kitOne K (.ref (xc c)) (.ref (xc k)) = some (tT c k) := by
  unfold PySem.W.kitOne
  split
  · rename_i h
    have e : xc c = xc k := Value.ref.inj (beq_iff_eq.mp h)
    have h1 := T.su c k hk
    rw [e, T.su k k hk, T.rf k hk] at h1
    exact h1
  · unfold PySem.W.kitCls
    have e2 : ((PySem.W.clsIn K (xc k)).isSome && PySem.W.typeIn K (.ref (xc k)) == some (.type "type")) = true := by rw [(T.cl k).isSome, (T.cl k).ty]; rfl
    show (if _ then _ else _) = _
    rw [if_pos e2]
    exact T.su c k hk
end

/-! ### try -/
def sTry (i : Nat) (cat : Nat → Bool) (fb : Sv J) (fs : Addr → Ex → Sv J) (m : Sd) (j : J) (P : Fl → Sd → J → Prop) (E : XP J) : Prop :=
  fb m j P (fun e m' j' => if cat e.c = true then ∀ a, fs a e (m'.set i (some (.obj a))) j' (fun l m2 j2 => P l (m2.set i none) j2) (fun _ _ _ => False) else E e m' j')
instance {i : Nat} {cat : Nat → Bool} {fb : Sv J} {fs : Addr → Ex → Sv J} [h1 : MoS fb] [h2 : ∀ a e, MoS (fs a e)] : MoS (sTry i cat fb fs) :=
  ⟨fun h q x => h1.mo h q fun e m' j' z => ite_mono z (fun z a => (h2 a e).mo (z a) (fun _ _ _ p => q _ _ _ p) fun _ _ _ z => z) fun z => x _ _ _ z⟩
section
variable {S : Js J} {B : Bs} {M : Nat → Bool} {W : WX} {X : Cx} {g g' : Gh} {H H' : Hp} {j j' : J} {r : St} {m : Sd}
theorem OkB.inner (k : OkB S B g H j) : OkB S ⟨g.F, B.H0, B.A0⟩ g H j := ⟨k.fg, k.gh, k.ga, k.jr, Same.refl _, fun b o e => (k.g0 b o e).imp (fun z => k.f0 b o z) id, k.a0, k.h0, k.h1, k.sm⟩
theorem OkB.outer (k : OkB S B g H j) (z : OkB S ⟨g.F, B.H0, B.A0⟩ g' H' j') : OkB S B g' H' j' :=
  ⟨z.fg, z.gh, z.ga, z.jr, k.f0.trans z.f0, fun b o e => (z.g0 b o e).elim (fun y => k.g0 b o (k.fg b o y)) .inr, z.a0, z.h0, z.h1, z.sm⟩
theorem Slots.gone (h : Slots S g M r m) (i : Nat) : Slots S g M (r.set i none) (m.set i none) := by
  have ne : ∀ {k : Nat} {d : D}, (m.set i none)[k]? = some (some d) → k ≠ i ∧ m[k]? = some (some d) := fun {k d} e => by
    by_cases hk : k = i
    · subst hk
      by_cases hl : k < m.length
      · rw [List.getElem?_set_self hl] at e; cases e
      · rw [List.getElem?_eq_none (by simpa using hl)] at e; cases e
    · rw [List.getElem?_set_ne (Ne.symm hk)] at e
      exact ⟨hk, e⟩
  refine ⟨by simpa using h.len, fun k d e q => ?_, fun k d e q => ?_, fun k l a d d' e1 e2 q1 q2 r1 r2 => ?_⟩
  · obtain ⟨hk, e⟩ := ne e
    rw [List.getElem?_set_ne (Ne.symm hk)]
    exact h.fr k d e q
  · obtain ⟨hk, e⟩ := ne e
    rw [List.getElem?_set_ne (Ne.symm hk)]
    exact h.ow k d e q
  · obtain ⟨hk, e1⟩ := ne e1
    obtain ⟨hl, e2⟩ := ne e2
    rw [List.getElem?_set_ne (Ne.symm hk)] at r1
    rw [List.getElem?_set_ne (Ne.symm hl)] at r2
    exact h.dj k l a d d' e1 e2 q1 q2 r1 r2
variable {x n : Str} {c : Value} {i : Nat} {body suite : List Stmt} {b0 : Stmt} {np pos pos' : Pos} {cat : Nat → Bool} {fb : Sv J} {fs : Addr → Ex → Sv J}
end

/-! ### in the suite -/
/-- isinstance(x, ..): x is what was caught -/
def eIsX (a : Addr) (b : Bool) (y : Option D) (fe : Ev J) (m : Sd) (j : J) (P : D → J → Prop) (E : XP J) : Prop := fe m j (fun d j1 => d = .obj a ∧ (∃ z, y = some z) ∧ P (.bl b) j1) E
/-- x.f -/
def eXf (a : Addr) (ok : Prop) (y : Option D) (fe : Ev J) (m : Sd) (j : J) (P : D → J → Prop) (E : XP J) : Prop := fe m j (fun d j1 => d = .obj a ∧ ok ∧ ∃ z, y = some z ∧ P z j1) E
instance {a : Addr} {b : Bool} {y : Option D} {fe : Ev J} [h1 : MoE fe] : MoE (eIsX a b y fe) := ⟨fun h q x => h1.mo h (fun _ _ ⟨e, z, p⟩ => ⟨e, z, q _ _ p⟩) x⟩
instance {a : Addr} {ok : Prop} {y : Option D} {fe : Ev J} [h1 : MoE fe] : MoE (eXf a ok y fe) := ⟨fun h q x => h1.mo h (fun _ _ ⟨e, o, z, ez, p⟩ => ⟨e, o, z, ez, q _ _ p⟩) x⟩
def rIsX (K : PySem.W.Frag) (C a : Addr) (d : Option Addr) : List V → Hp → VK → Prop := fun xs H Q => ∃ (c : V) (dd : Addr) (fs : List (Str × V)), xs = [.ref a, c] ∧ d = some dd ∧ H dd = some (.xd fs) ∧
  ((∃ (cv : Value) (b : Bool), (∀ u, RelV c u → u = cv) ∧ PySem.W.kitOne K (.ref C) cv = some b ∧ Q (.bl b) H) ∨
   ∃ (tp : Addr) (o : Obj) (cs : List V) (vs : List Value) (b : Bool), c = .ref tp ∧ H tp = some (.frz o (.tup cs)) ∧ (∀ us, Vals cs us → us = vs) ∧ PySem.W.kitAny K (.ref C) vs = some b ∧ Q (.bl b) H)
section
variable {S : Js J} {B : Bs} {M : Nat → Bool} {W : WX} {X : Cx} {e : Expr} {pos p p2 : Pos} {fe : Ev J} {x : Str} {a : Addr} {oe : Obj} {ex : Ex} {d : Option Addr} {pn : List (Addr × Obj)}
variable {mg : Str → Option Value} {tT : Nat → Nat → Bool} {n : Nat} {names : List (Str × Nat)} {attrs : List Str}
theorem XT.any {K : PySem.W.Frag} {mg : Str → Option Value} {xc : Nat → Addr} (T : XT K mg xc tT n names attrs) (c : Nat) : ∀ ks : List Nat, (∀ k ∈ ks, k < n) → PySem.W.kitAny K (.ref (xc c)) (ks.map fun k => .ref (xc k)) = some (ks.any (tT c))
  | [], _ => rfl
  | k :: ks, h => by
    rw [List.map_cons, List.any_cons]
    unfold PySem.W.kitAny
    rw [T.kit c (h k List.mem_cons_self)]
    cases tT c k with
    | true => rfl
    | false => exact T.any c ks fun y hy => h y (List.mem_cons_of_mem _ hy)
end
/-! ### dicts with nothing or one pair of constants -/
section
variable {S : Js J} {B : Bs} {M : Nat → Bool} {W : WX} {X : Cx} {pos p1 p2 : Pos} {x : Str} {i : Int} {k1 k2 : Nat}
end
/-! ### step by step -/
section
variable {f : Ev J} {fb : Sv J} {fs : Addr → Ex → Sv J} {m : Sd} {j : J} {P : D → J → Prop} {PS : Fl → Sd → J → Prop} {E : XP J} {c i : Nat} {a : Addr} {b : Bool} {y : Option D} {ok : Prop} {cat : Nat → Bool}
@[simp ↓] theorem a_raise : sRaise c f m j PS E = f m j (fun d j1 => E ⟨c, some d⟩ m j1) E := rfl
@[simp ↓] theorem a_isx : eIsX a b y f m j P E = f m j (fun d j1 => d = .obj a ∧ (∃ z, y = some z) ∧ P (.bl b) j1) E := rfl
@[simp ↓] theorem a_xf : eXf a ok y f m j P E = f m j (fun d j1 => d = .obj a ∧ ok ∧ ∃ z, y = some z ∧ P z j1) E := rfl
@[simp ↓] theorem a_try : sTry i cat fb fs m j PS E = fb m j PS (fun e m' j' => if cat e.c = true then ∀ a, fs a e (m'.set i (some (.obj a))) j' (fun l m2 j2 => PS l (m2.set i none) j2) (fun _ _ _ => False) else E e m' j') := rfl
end
/-! ### xs == [], xs != [], whatever the items are -/
def eqLD (x y : D) : Option D := match x, y with | .lst (_ :: _), .lst [] => some (.bl false) | x, y => eqD x y
def neLD (x y : D) : Option D := match x, y with | .lst (_ :: _), .lst [] => some (.bl true) | x, y => neD x y
def rLn (K : PySem.W.Frag) (b : Bool) : R2 := fun x y H Q => ∃ a c xs, x = .ref a ∧ y = .ref c ∧ SqL K H a xs ∧ SqL K H c [] ∧ xs ≠ [] ∧ Q (.bl b) H
section
variable {S : Js J} {X : Cx}
theorem ln_lists {pins : List (Addr × Obj)} {σ : St} {H : Hp} {s : Shared} {a c : Addr} {xs : List V} (I : Inv X pins σ H s) (ha : SqL X.K H a xs) (hc : SqL X.K H c []) (hx : xs ≠ []) :
    ∃ i1 i2 : Array Value, s.heap.IsList a i1 ∧ s.heap.IsList c i2 ∧ (i1.size != i2.size) = true := by
  obtain ⟨its, r, ⟨o, n, e1, e2, _, e3⟩, _⟩ := I.list ha
  obtain ⟨its', r', ⟨o', n', f1, f2, _, f3⟩, _⟩ := I.list hc
  cases r'
  refine ⟨its.toArray, _, ⟨o, e1, e2, n, e3⟩, ⟨o', f1, f2, n', f3⟩, ?_⟩
  have := r.length
  have h0 : 0 < xs.length := List.length_pos_iff.mpr hx
  simp only [List.size_toArray, List.length_nil, bne_iff_ne, ne_eq]
  omega
theorem op_eqLn (hu : X.A.units + 64 < cLine) : OpR X (compareOp .Eq) (rLn X.K false) := by
  intro pins s σ H x y v u Q I rx ry h
  obtain ⟨a, c, xs, rfl, rfl, ha, hc, hx, q⟩ := h
  obtain ⟨i1, i2, h1, h2, h3⟩ := ln_lists I ha hc hx
  cases rx; cases ry
  exact SeqAt.RcAt.lists_lengths h1 h2 h3 (by omega) _ _ _ _ ⟨.bl _, H, I, rfl, q⟩
theorem kEqL (hK : X.K = S.K) (hu : X.A.units + 64 < cLine) : OpR X (compareOp .Eq) (fun x y H Q => rEqE S.K x y H Q ∨ rLn S.K false x y H Q) := (kEq hK hu).or (hK ▸ op_eqLn hu)
theorem s_eqL : OpS S (fun x y H Q => rEqE S.K x y H Q ∨ rLn S.K false x y H Q) eqLD false .clean := by
  intro B g H j d1 d2 d v1 v2 Q ok h1 h2 e q
  unfold eqLD at e
  split at e
  · cases e
    cases h1 with
    | lst e1 r1 =>
      cases h2 with
      | lst e2 r2 =>
        cases r2
        refine .inr ⟨_, _, _, rfl, rfl, SqL.of (ok.gh _ _ e1), SqL.of (ok.gh _ _ e2), fun z => ?_, q g _ H (Le.refl g) ok (.bl _)⟩
        rw [z] at r1; cases r1
  · exact .inl (s_eq B g H j _ _ d v1 v2 Q ok h1 h2 e q)
end
@[simp] theorem eqL_n {xs : List D} : eqLD (.lst xs) (.lst []) = some (.bl xs.isEmpty) := by
  cases xs with
  | nil => exact (show eqD (.lst []) (.lst []) = some (.bl true) from rfl)
  | cons x r => rfl
@[simp] theorem neL_n {xs : List D} : neLD (.lst xs) (.lst []) = some (.bl (!xs.isEmpty)) := by
  cases xs with
  | nil => exact (show neD (.lst []) (.lst []) = some (.bl false) from rfl)
  | cons x r => rfl
end Mp

namespace Mp
open PySem PySem.Spec L2
open PyProof.Rows hiding St
abbrev ZR (h : Heap) (z TI TO : Addr) (f0 f1 : Value) : Prop := h.get? z = some { cls := .type "zip", dict := none, data := .fields #[f0, f1, .bool false, .ref TI, .ref TO], slots := #[] }
def Fo (f : Value) : Prop := f = .none ∨ ∃ a : Nat, f = rawInt (a : Int)
section
variable {prog : Program} {w : World} {A : Around} {E : Value → Shared → Prop} {s : Shared}
/-! ### zip(a, b), a name as target -/
end
def ItzN (K : PySem.W.Frag) (a b : Addr) : It :=
  ⟨fun i H => ∃ (xs ys : List V) (x y : V), SqL K H a xs ∧ SqL K H b ys ∧ xs[i]? = some x ∧ ys[i]? = some y,
   fun i H v H' => ∃ T o x y, v = .ref T ∧ H T = none ∧ o.dict = none ∧ H' = upd H T (.frz o (.tup [x, y])) ∧ (∀ xs, SqL K H a xs → xs[i]? = some x) ∧ ∀ ys, SqL K H b ys → ys[i]? = some y,
   fun i H => ∃ xs ys : List V, SqL K H a xs ∧ SqL K H b ys ∧ (xs.length ≤ i ∨ ys.length ≤ i)⟩
def iZipN (K : PySem.W.Frag) (ta : TA) : TI := fun σ H R => ta σ H fun vs H1 => ∃ a b xs ys, vs = [.ref a, .ref b] ∧ SqL K H1 a xs ∧ SqL K H1 b ys ∧ R (ItzN K a b) H1
/-! ### enumerate(t), t a tuple -/
section
end
section
variable {prog : Program} {w : World} {A : Around} {E : Value → Shared → Prop} {s : Shared}
end
def IteT (K : PySem.W.Frag) (a : Addr) : It :=
  ⟨fun i H => ∃ (xs : List V) (x : V), SqT K H a xs ∧ xs[i]? = some x, fun i H v H' => ∃ T x, v = .ref T ∧ H T = none ∧ H' = upd H T (.tup [.int (i : Nat), x]) ∧ ∀ xs, SqT K H a xs → xs[i]? = some x, fun i H => ∃ xs : List V, SqT K H a xs ∧ xs.length = i⟩
variable {J : Type}
def iZpN (fa fb : Ev J) (m : Sd) (j : J) (P : List D → J → Prop) (E : XP J) : Prop := fa m j (fun x j1 => fb m j1 (fun y j2 => ∃ xs ys, x = .lst xs ∧ y = .lst ys ∧ P (zipD xs ys) j2) E) E
instance {fa fb : Ev J} [ha : MoE fa] [hb : MoE fb] : MoA (iZpN fa fb) := ⟨fun h q x => ha.mo h (fun _ _ h1 => hb.mo h1 (fun _ _ ⟨xs, ys, e1, e2, p⟩ => ⟨xs, ys, e1, e2, q _ _ p⟩) x) x⟩
section
variable {S : Js J} {B : Bs} {M : Nat → Bool} {W : WX} {X : Cx} {a b : Expr} {pos p tpos : Pos} {fa fb : Ev J} {nm : Str}
variable {m : Sd} {j : J} {PA : List D → J → Prop} {E : XP J}
@[simp ↓] theorem a_izn : iZpN fa fb m j PA E = fa m j (fun x j1 => fb m j1 (fun y j2 => ∃ xs ys, x = .lst xs ∧ y = .lst ys ∧ PA (zipD xs ys) j2) E) E := rfl
end
/-! ### enumerate(x), x a list or a tuple -/
def iEnB (K : PySem.W.Frag) (ta : TA) : TI := fun σ H R => ta σ H fun vs H1 => ∃ a xs, vs = [.ref a] ∧ ((SqL K H1 a xs ∧ R (Ite K a) H1) ∨ (SqT K H1 a xs ∧ R (IteT K a) H1))
def enO : D → Option (List D)
  | .lst xs => some (enumD xs)
  | .tup xs => some (enumD xs)
  | _ => none
def iEnmB (f : Ev J) (m : Sd) (j : J) (P : List D → J → Prop) (E : XP J) : Prop := f m j (fun d j1 => ∃ zs, enO d = some zs ∧ P zs j1) E
instance {f : Ev J} [ha : MoE f] : MoA (iEnmB f) := ⟨fun h q x => ha.mo h (fun _ _ ⟨b, e, p⟩ => ⟨b, e, q _ _ p⟩) x⟩
section
variable {S : Js J} {B : Bs} {M : Nat → Bool} {W : WX} {X : Cx} {a : Expr} {pos p tpos : Pos} {fa : Ev J} {elts : List Expr} {kk : Nat}
variable {m : Sd} {j : J} {PA : List D → J → Prop} {E : XP J}
@[simp ↓] theorem a_ienb : iEnmB fa m j PA E = fa m j (fun d j1 => ∃ zs, enO d = some zs ∧ PA zs j1) E := rfl
@[simp] theorem en_l {xs : List D} : enO (.lst xs) = some (enumD xs) := rfl
@[simp] theorem en_t {xs : List D} : enO (.tup xs) = some (enumD xs) := rfl
end
end Mp

/-! NV: a zip of any two iterators, gathered into a list. -/
namespace Mp
open PySem PySem.Spec L2
open PyProof.Rows hiding St
section
variable {prog : Program} {w : World} {A : Around} {E : Value → Shared → Prop} {s : Shared}
end
section
variable {prog : Program} {w : World} {A : Around} {E : Value → Shared → Prop} {s : Shared} {z TI TO i1 i2 : Addr} {fp1 fp2 : List Addr} {n1 n2 i : Nat} {P1 P2 : Nat → Value → Prop} {St1 St2 : Nat → Heap → Prop} {a b f0 f1 : Value}
def ZSt (z TI TO i1 i2 : Addr) (St1 St2 : Nat → Heap → Prop) (i : Nat) (h : Heap) : Prop := (∃ f0 f1, Fo f0 ∧ ZR h z TI TO f0 f1) ∧ IsPair h TI (.ref i1) (.ref i2) ∧ (∃ x y, IsPair h TO x y) ∧ St1 i h ∧ St2 i h
theorem ZSt.keep {h h' : Heap} (D1 : Draws prog w A i1 fp1 n1 P1 St1) (D2 : Draws prog w A i2 fp2 n2 P2 St2) (st : ZSt z TI TO i1 i2 St1 St2 i h) (k : ∀ c o, (c = z ∨ c = TI ∨ c = TO ∨ c ∈ fp1 ∨ c ∈ fp2) → h.get? c = some o → h'.get? c = some o) : ZSt z TI TO i1 i2 St1 St2 i h' := by
  obtain ⟨⟨f0, f1, hf, hz⟩, hTI, ⟨a, b, hTO⟩, st1, st2⟩ := st
  exact ⟨⟨f0, f1, hf, k _ _ (.inl rfl) hz⟩, k _ _ (.inr (.inl rfl)) hTI, ⟨a, b, k _ _ (.inr (.inr (.inl rfl))) hTO⟩, D1.frame _ _ _ st1 fun b hb o e => k b o (.inr (.inr (.inr (.inl hb)))) e, D2.frame _ _ _ st2 fun b hb o e => k b o (.inr (.inr (.inr (.inr hb)))) e⟩
end
end Mp

/-! NW: sorted(zip(..)), tuple(zip(..)). -/
namespace Mp
open PySem PySem.Spec L2
open PyProof.Rows hiding St
section
variable {prog : Program} {w : World} {A : Around} {E : Value → Shared → Prop} {s : Shared} {r : Addr}
end
structure MadeZ (P1 P2 : Nat → Value → Prop) (lo : Addr) (h : Heap) (as : List Addr) : Prop where
  rise : as.Pairwise (· < ·)
  above : ∀ a ∈ as, lo < a
  pairs : ∀ (j : Nat) (a : Addr), as[j]? = some a → ∃ x y, P1 j x ∧ P2 j y ∧ IsPair h a x y
section
variable {prog : Program} {w : World} {A : Around} {E : Value → Shared → Prop} {s : Shared} {z TI TO i1 i2 : Addr} {fp1 fp2 : List Addr} {n1 n2 : Nat} {P1 P2 : Nat → Value → Prop} {St1 St2 : Nat → Heap → Prop}
theorem MadeZ.there {lo : Addr} {h : Heap} {as : List Addr} (g : MadeZ P1 P2 lo h as) {a : Addr} (ha : a ∈ as) : a < h.objs.size := by
  obtain ⟨j, hj⟩ := List.mem_iff_getElem?.mp ha
  obtain ⟨_, _, _, _, e⟩ := g.pairs j a hj
  exact Heap.lt_size e
end
def IntP (ns : List Int) (j : Nat) (v : Value) : Prop := ∃ n t, ns[j]? = some n ∧ v = .int n t
def pk (h : Heap) (v : Value) : Int × Int := match v with
  | .ref a => match h.get? a with
    | some o => match o.data with
      | .seq xs _ => match xs.toList with
        | [.int x _, .int y _] => (x, y)
        | _ => (0, 0)
      | _ => (0, 0)
    | none => (0, 0)
  | _ => (0, 0)
def rfA : Value → Addr
  | .ref a => a
  | _ => 0
section
variable {prog : Program} {w : World} {A : Around} {E : Value → Shared → Prop} {s : Shared} {z TI TO i1 i2 : Addr} {fp1 fp2 : List Addr} {St1 St2 : Nat → Heap → Prop} {ns ms : List Int}
end
/-! ### by values -/
theorem Draws.mono {prog : Program} {w : World} {A : Around} {it : Addr} {fp : List Addr} {n n' : Nat} {P P' : Nat → Value → Prop} {St : Nat → Heap → Prop} (D : Draws prog w A it fp n P St) (e : n = n') (h : ∀ i v, P i v → P' i v) : Draws prog w A it fp n' P' St where
  live := D.live
  frame := D.frame
  item := fun i s Q E hi st hQ => D.item i s Q E (by omega) st fun x h' tk p => hQ x h' tk (h i x p)
  done := fun s Q E st hE => D.done s Q E (by rw [e]; exact st) hE
def NewTs : Hp → List (Int × Int) → (Hp → List Addr → Prop) → Prop
  | H, [], k => k H []
  | H, p :: ps, k => ∀ (a : Addr) (o : Obj), H a = none → o.dict = none → NewTs (upd H a (.frz o (.tup [.int p.1, .int p.2]))) ps fun H' as => k H' (a :: as)
def PZp (X : Cx) (e : Expr) (t : St → Hp → (List Int → List Int → Hp → Prop) → Prop) : Prop :=
  ∀ (pins : List (Addr × Obj)) (s : Shared) (σ : St) (H : Hp) (Q : List Int → List Int → Hp → Prop), Inv X pins σ H s → t σ H Q →
    wpAny (model X.prog X.w) X.A (eval e X.env) (fun x s' => ∃ (z TI TO i1 i2 : Addr) (fp1 fp2 : List Addr) (St1 St2 : Nat → Heap → Prop) (ns ms : List Int) (H' : Hp), x = .ref z ∧ ZipSep2 z TI TO i1 i2 fp1 fp2 ∧
      (∀ A : Around, A.handled = none → Draws X.prog X.w A i1 fp1 ns.length (IntP ns) St1) ∧ (∀ A : Around, A.handled = none → Draws X.prog X.w A i2 fp2 ms.length (IntP ms) St2) ∧ (∀ c ∈ fp1, c < s'.heap.objs.size) ∧ (∀ c ∈ fp2, c < s'.heap.objs.size) ∧
      ZSt z TI TO i1 i2 St1 St2 0 s'.heap ∧ (∀ c ∈ [z, TO, i1, i2], FpOk X pins H' c) ∧ Inv X pins σ H' s' ∧ ns.length ≤ sizeLine ∧ Q ns ms H') X.xe s
def tSortZ (t : St → Hp → (List Int → List Int → Hp → Prop) → Prop) : TE := fun σ H Q => t σ H fun ns ms H1 => ∀ ps : List (Int × Int), ps.Perm (ns.zip ms) → ps.Pairwise (fun p q => SrtO.lexB q p = false) →
  NewTs H1 ps fun H2 as => ∀ l, H2 l = none → Q (.ref l) (upd H2 l (.lst (as.map V.ref)))
section
variable {X : Cx} {e : Expr} {te : St → Hp → (List Int → List Int → Hp → Prop) → Prop}
end
/-! ### zip(l, range(n)) is made -/
abbrev zrH1 (h : Heap) (l1 : Addr) : Heap := h.push { cls := .type "list_iterator", data := .fields #[.ref l1, .int 0 0] }
abbrev zrH2 (h : Heap) (l1 : Addr) (n : Int) : Heap := (zrH1 h l1).push { cls := .type "range_iterator", data := .fields #[rawInt 0, rawInt (Builtin.Range.rangeSize 0 n 1), rawInt 1] }
abbrev zrH3 (h : Heap) (l1 : Addr) (n : Int) : Heap := (zrH2 h l1 n).push { cls := .type "tuple", data := .seq #[.ref h.objs.size, .ref (zrH1 h l1).objs.size] }
abbrev zrH4 (h : Heap) (l1 : Addr) (n : Int) : Heap := (zrH3 h l1 n).push { cls := .type "tuple", data := .seq #[.none, .none] }
abbrev zrH5 (h : Heap) (l1 : Addr) (n : Int) : Heap := (zrH4 h l1 n).push { cls := .type "zip", data := .fields #[.none, .bool false, .bool false, .ref (zrH2 h l1 n).objs.size, .ref (zrH3 h l1 n).objs.size] }
section
variable {prog : Program} {w : World} {A : Around} {E : Value → Shared → Prop} {s : Shared}
end
def rgI (n : Nat) : List Int := (List.range n).map fun i : Nat => (i : Int)
section
variable {X : Cx} {a b : Expr} {ta tb : TE} {tr : St → Hp → (Int → Int → Hp → Prop) → Prop}
def tZll (K : PySem.W.Frag) (ta tb : TE) : St → Hp → (List Int → List Int → Hp → Prop) → Prop := fun σ H Q => ta σ H fun x H1 => tb σ H1 fun y H2 => ∃ p q ns ms, x = .ref p ∧ y = .ref q ∧ SqL K H2 p (ns.map V.int) ∧ SqL K H2 q (ms.map V.int) ∧ Q ns ms H2
def tZlr (K : PySem.W.Frag) (ta : TE) (tr : St → Hp → (Int → Int → Hp → Prop) → Prop) : St → Hp → (List Int → List Int → Hp → Prop) → Prop := fun σ H Q => ta σ H fun x H1 => tr σ H1 fun lo hi H2 => ∃ p ns, x = .ref p ∧ lo = 0 ∧ RgOk 0 hi ∧ SqL K H2 p (ns.map V.int) ∧ Q ns (rgI hi.toNat) H2
end
end Mp

/-! NH: sorted(zip(..)) by data. -/
namespace Mp
open PySem PySem.Spec L2
open PyProof.Rows hiding St
/-! ### by data -/
def lexle (p q : Int × Int) : Bool := !SrtO.lexB q p
def psort (l : List (Int × Int)) : List (Int × Int) := l.mergeSort lexle
def prD (p : Int × Int) : D := .tup [.int p.1, .int p.2]
def szO : D → List D → Option (List D)
  | .lst xs, ys => match ints? xs, ints? ys with
    | some ns, some ms => some ((psort (ns.zip ms)).map prD)
    | _, _ => none
  | _, _ => none
variable {J : Type}
def iLs (f : Ev J) (m : Sd) (j : J) (P : List D → J → Prop) (E : XP J) : Prop := f m j (fun d j1 => ∃ ys, d = .lst ys ∧ P ys j1) E
def eSZ (fa : Ev J) (ib : Iv J) (m : Sd) (j : J) (P : D → J → Prop) (E : XP J) : Prop := fa m j (fun x j1 => ib m j1 (fun ys j2 => ys.length ≤ LINE ∧ ∃ zs, szO x ys = some zs ∧ P (.lst zs) j2) E) E
instance {f : Ev J} [ha : MoE f] : MoA (iLs f) := ⟨fun h q x => ha.mo h (fun _ _ ⟨b, e, p⟩ => ⟨b, e, q _ _ p⟩) x⟩
instance {fa : Ev J} {ib : Iv J} [ha : MoE fa] [hb : MoA ib] : MoE (eSZ fa ib) := ⟨fun h q x => ha.mo h (fun _ _ h1 => hb.mo h1 (fun _ _ ⟨l, zs, e, p⟩ => ⟨l, zs, e, q _ _ p⟩) x) x⟩
section
variable {S : Js J} {B : Bs} {M : Nat → Bool} {W : WX} {X : Cx} {a b : Expr} {pos p tpos q0 q1 p2 pos2 : Pos} {fa fb : Ev J} {ib : Iv J}
variable {m : Sd} {j : J} {PE' : D → J → Prop} {PA : List D → J → Prop} {E : XP J}
@[simp ↓] theorem a_ils : iLs fb m j PA E = fb m j (fun d j1 => ∃ ys, d = .lst ys ∧ PA ys j1) E := rfl
@[simp ↓] theorem a_esz : eSZ fa ib m j PE' E = fa m j (fun x j1 => ib m j1 (fun ys j2 => ys.length ≤ LINE ∧ ∃ zs, szO x ys = some zs ∧ PE' (.lst zs) j2) E) E := rfl
end
@[simp] theorem sz_l {ns ms : List Int} : szO (.lst (ns.map D.int)) (ms.map D.int) = some ((psort (ns.zip ms)).map prD) := by
  unfold szO
  simp only [ints?_map]
/-! ### len(set(x)), x a list or a tuple -/
def lenSetB : D → Option D
  | .lst xs => slI xs
  | .tup xs => if xs.length < 64 then slI xs else none
  | _ => none
def tLenSetB (K : PySem.W.Frag) (ta : TE) : TE := fun σ H Q => ta σ H fun x H1 => ∃ (l : Addr) (ns : List Int), x = V.ref l ∧ ((SqL K H1 l (ns.map V.int) ∧ ns.length < 1000) ∨ (SqT K H1 l (ns.map V.int) ∧ ns.length < 64)) ∧ Q (.int (ssort ns).length) H1
section
variable {X : Cx} {a : Expr} {ta : TE} {p p2 q pos : Pos}
end
section
variable {S : Js J} {B : Bs} {M : Nat → Bool} {W : WX} {X : Cx} {a : Expr} {fa : Ev J} {p p2 q pos : Pos}
end
end Mp

/-! NI: a for over an owned list (or enumerate of it): the list is frozen, the slot forgotten. -/
namespace Mp
open PySem PySem.Spec L2
open PyProof.Rows hiding St
variable {J : Type}
abbrev Jv (J : Type) := Sd → J → (List D → Sd → J → Prop) → XP J → Prop
class MoJ (f : Jv J) : Prop where
  mo : ∀ {m : Sd} {j : J} {P P' : List D → Sd → J → Prop} {E E' : XP J}, f m j P E → (∀ d m' j', P d m' j' → P' d m' j') → (∀ e m' j', E e m' j' → E' e m' j') → f m j P' E'
def rdJ (S : Js J) (B : Bs) (M : Nat → Bool) (W : WX) (w : Bool) (f : Jv J) : TI := fun r H R => ∃ g m j P E, Ok S B g M r H m j ∧ f m j P E ∧
  (∀ ds m' j' g' H' Jt, P ds m' j' → Same g.F g'.F → Ok S B g' M r H' m' j' → WalkD S Jt ds true w g' → R Jt H') ∧ XOut S B M W g E
def sForJ (fj : Jv J) (γ : Gv) (fb : Sv J) (m : Sd) (j : J) (P : Fl → Sd → J → Prop) (E : XP J) : Prop := fj m j (fun ds m1 j1 => forW γ fb ds m1 j1 P E) E
instance {fj : Jv J} {γ : Gv} {fb : Sv J} [hi : MoJ fj] [hb : MoS fb] : MoS (sForJ fj γ fb) := ⟨fun h q x => hi.mo h (fun _ _ _ p => forW_mo p q x) x⟩
def jSeq (i : Nat) (m : Sd) (j : J) (P : List D → Sd → J → Prop) (E : XP J) : Prop := ∃ ds, m[i]? = some (some (.lst ds)) ∧ P ds (m.set i none) j
def jEnm (i : Nat) (m : Sd) (j : J) (P : List D → Sd → J → Prop) (E : XP J) : Prop := ∃ ds, m[i]? = some (some (.lst ds)) ∧ P (enumD ds) (m.set i none) j
instance {i : Nat} : MoJ (J := J) (jSeq i) := ⟨fun ⟨ds, e, p⟩ q _ => ⟨ds, e, q _ _ _ p⟩⟩
instance {i : Nat} : MoJ (J := J) (jEnm i) := ⟨fun ⟨ds, e, p⟩ q _ => ⟨ds, e, q _ _ _ p⟩⟩
section
variable {S : Js J} {B : Bs} {M : Nat → Bool} {W : WX} {X : Cx} {tg iter : Expr} {body : List Stmt} {pos p : Pos} {fb : Sv J} {fj : Jv J} {γ : Gv} {ks : List Nat} {w : Bool} {g : Gh} {r : St} {H : Hp} {m : Sd} {j : J} {i : Nat} {ds : List D} {x : Str}
theorem set_none {i k : Nat} {d : D} (h : (m.set i none)[k]? = some (some d)) : k ≠ i ∧ m[k]? = some (some d) := by
  rw [List.getElem?_set] at h
  by_cases e : i = k
  · rw [if_pos e] at h
    split at h <;> cases h
  · rw [if_neg e] at h
    exact ⟨fun z => e z.symm, h⟩
theorem Ok.eat (ok : Ok S B g M r H m j) (hM : M i = true) (h : m[i]? = some (some (.lst ds))) :
    ∃ a vs g', r[i]? = some (some (.ref a)) ∧ Same g.F g'.F ∧ Ok S B g' M r H (m.set i none) j ∧ g'.F a = some (.lst vs) ∧ RpL S g'.F ds vs := by
  obtain ⟨a, h1, n, ⟨xs, vs, e1, e2, t⟩ | ⟨kds, kvs, e1, _⟩ | ⟨kds, kvs, e1, _⟩⟩ := ok.s.ow i _ h hM
  · cases e1
    have sf : Same g.F (upd g.F a (.lst vs)) := same_new n
    refine ⟨a, vs, ⟨upd g.F a (.lst vs), g.G, g.A⟩, h1, sf, ⟨⟨?_, ok.b.gh, ok.b.ga, S.frame ok.b.jr sf fun _ _ => rfl, fun b o e => sf _ _ (ok.b.f0 _ _ e), ok.b.g0, ok.b.a0, ok.b.h0, ok.b.h1, ok.b.sm⟩, ⟨?_, ?_, ?_, ?_⟩⟩, upd_same, t.mono sf⟩
    · intro b o e
      replace e : upd g.F a (.lst vs) b = some o := e
      show g.G b = some o
      by_cases c : b = a
      · subst c
        rw [show upd g.F b (.lst vs) b = some (.lst vs) from upd_same] at e
        cases e; exact e2
      · rw [show upd g.F a (.lst vs) b = g.F b from upd_ne c] at e
        exact ok.b.fg _ _ e
    · rw [List.length_set]; exact ok.s.len
    · intro k d hk hMk
      obtain ⟨v, q1, q2⟩ := ok.s.fr k d (set_none hk).2 hMk
      exact ⟨v, q1, q2.mono sf⟩
    · intro k d hk hMk
      obtain ⟨nk, hk'⟩ := set_none hk
      obtain ⟨b, q1, q2, q3⟩ := ok.s.ow k d hk' hMk
      have nb : b ≠ a := fun z => nk (ok.s.dj k i a d (.lst ds) hk' h hMk hM (by rw [← z]; exact q1) h1)
      refine ⟨b, q1, (upd_ne nb).trans q2, ?_⟩
      rcases q3 with ⟨xs, ws, c1, c2, c3⟩ | ⟨kds, kvs, c1, c2, c3, c4⟩ | ⟨kds, kvs, c1, c2, c3, c4⟩
      · exact .inl ⟨xs, ws, c1, c2, c3.mono sf⟩
      · exact .inr (.inl ⟨kds, kvs, c1, c2, c3, c4.mono sf⟩)
      · exact .inr (.inr ⟨kds, kvs, c1, c2, c3, c4.mono sf⟩)
    · intro k l b d e hk hl hMk hMl r1 r2
      exact ok.s.dj k l b d e (set_none hk).2 (set_none hl).2 hMk hMl r1 r2
  · cases e1
  · cases e1
theorem j_seq {tg : Expr} (hK : X.K = S.K) (hM : M i = true) (hN : X.N[i]? = some x) (hv : Vis X.env.scope x) (hd : (x == ("__debug__" : Str)) = false) (hcd : (x == ("__classdict__" : Str)) = false) : PI X tg (.Name x pos) (rdJ S B M W false (jSeq i)) :=
  PI.imp (pi_list (pe_var hN hv hd hcd)) fun r H R ⟨g, m, j, P, E, ok, ⟨ds, he, pp⟩, q, xo⟩ => by
    obtain ⟨a, vs, g', h1, sf, ok', ha, ra⟩ := ok.eat hM he
    exact ⟨_, h1, a, rfl, ⟨vs, .of ((ok'.b.fg.trans ok'.b.gh) _ _ ha)⟩, q _ _ _ g' H _ pp sf ok' (walkD_seq hK (.inl ha) ok'.b.fg ra)⟩
theorem s_forJ (hp : PassesOwn (model X.prog X.w) X.A X.env X.xe) (hc : X.calm = true) (hi : PI X tg iter (rdJ S B M W w fj)) (hg : PG X tg (rdG S B M w ks γ)) (hb : PSs X body (rdS S B M W fb)) (hs : ∀ x, foldedSetIterable iter X.env x = pure x) :
    PS X (.For tg iter body [] pos) (rdS S B M W (sForJ fj γ fb)) :=
  PS.imp (ps_for hp hc hi hg hb hs) fun E r H ⟨g, m, j, P, Ep, ok, hf, q, xo⟩ => by
    refine ⟨g, m, j, _, Ep, ok, hf, fun ds m1 j1 g1 H1 Jt hf l1 ok1 wk => ?_, xo⟩
    refine for_it wk (fun i r H => ∃ g2 m2 j2, Same g1.F g2.F ∧ Ok S B g2 M r H m2 j2 ∧ forW γ fb (ds.drop i) m2 j2 P Ep) ⟨g1, m1, j1, Same.refl _, ok1, by rw [List.drop_zero]; exact hf⟩ ?_ ?_ ?_
    · rintro i r2 H2 hi ⟨g2, m2, j2, l2, ok2, h2⟩
      exact l2.trans (ok2.b.fg.trans ok2.b.gh)
    · rintro i y r2 H2 H2' hi ⟨g2, m2, j2, l2, ok2, h2⟩ ⟨dd, hdd, yy⟩
      have hdrop : ds.drop i = dd :: ds.drop (i + 1) := by
        obtain ⟨hlt, he⟩ := List.getElem?_eq_some_iff.mp hdd
        rw [List.drop_eq_getElem_cons hlt, he]
      rw [hdrop] at h2
      obtain ⟨m3, hm3, h2⟩ := h2
      have item : ∃ g3, Le g2 g3 ∧ Ok S B g3 M r2 H2' m2 j2 ∧ RpX S g3.F w dd y := by
        rcases yy with ⟨rfl, rp⟩ | ⟨hw, T, vs, es, rfl, hT, rfl, rfl, rl⟩ | ⟨T, o, vs, es, rfl, hT, hdo, rfl, rfl, rl⟩
        · exact ⟨g2, Le.refl _, ok2, .inl (rp.mono l2)⟩
        · obtain ⟨t1, t2, t3, t4⟩ := ok2.b.hn hT
          exact ⟨_, Le.frz ok2.b.fg t2, ⟨ok2.b.frz _ hT, ok2.s.le (Le.frz ok2.b.fg t2)⟩, .inr ⟨hw, T, vs, es, rfl, upd_same, rfl, (rl.mono l2).mono (same_new t1)⟩⟩
        · obtain ⟨t1, t2, t3, t4⟩ := ok2.b.hn hT
          exact ⟨_, Le.frz ok2.b.fg t2, ⟨ok2.b.frz _ hT, ok2.s.le (Le.frz ok2.b.fg t2)⟩, .inl (.tup (.inl ⟨o, upd_same, hdo⟩) ((rl.mono l2).mono (same_new t1)))⟩
      obtain ⟨g3, l3, ok3, rp3⟩ := item
      refine ⟨g3, m2, j2, dd, m3, ok3, rp3, hm3, fun r4 ok4 len4 k4 => ?_⟩
      have l23 := l2.trans l3.f
      refine ⟨g3, m3, j2, _, Ep, ok4, h2, fun fl m5 j5 p => ?_, xo.le (l1.trans l23)⟩
      cases fl with
      | next => exact fun g6 r6 H6 l6 ok6 => ⟨g6, m5, j5, l23.trans l6, ok6, p⟩
      | cnt => exact fun g6 r6 H6 l6 ok6 => ⟨g6, m5, j5, l23.trans l6, ok6, p⟩
      | brk => exact fun g6 r6 H6 l6 ok6 => q _ _ _ p g6 r6 H6 ((l1.trans l23).trans l6) ok6
      | ret d => exact q _ _ _ p
    · rintro r2 H2 ⟨g2, m2, j2, l2, ok2, h2⟩
      rw [List.drop_length] at h2
      exact q _ _ _ h2 g2 r2 H2 (l1.trans l2) ok2
theorem jSq (i : Nat) {tg : Expr} (hK : X.K = S.K) (hM : M i = true := by rfl) (hN : X.N[i]? = some x := by rfl) (hv : Vis X.env.scope x := by first | exact Or.inl rfl | exact Or.inr (Or.inl rfl) | exact Or.inr (Or.inr rfl)) (hd : (x == ("__debug__" : Str)) = false := by decide) (hcd : (x == ("__classdict__" : Str)) = false := by decide) :
    PI X tg (.Name x pos) (rdJ S B M W false (jSeq i)) := j_seq hK hM hN hv hd hcd
theorem zForJ (hi : PI X tg iter (rdJ S B M W w fj)) (hg : PG X tg (rdG S B M w ks γ)) (hb : PSs X body (rdS S B M W fb)) (hp : PassesOwn (model X.prog X.w) X.A X.env X.xe := by exact PassesOwn.never) (hc : X.calm = true := by rfl) (hs : ∀ x, foldedSetIterable iter X.env x = pure x := by intro _; rfl) :
    PS X (.For tg iter body [] pos) (rdS S B M W (sForJ fj γ fb)) := s_forJ hp hc hi hg hb hs
variable {PS' : Fl → Sd → J → Prop} {E : XP J}
@[simp ↓] theorem a_jseq {P : List D → Sd → J → Prop} : jSeq i m j P E = ∃ ds, m[i]? = some (some (.lst ds)) ∧ P ds (m.set i none) j := rfl
@[simp ↓] theorem a_jenm {P : List D → Sd → J → Prop} : jEnm i m j P E = ∃ ds, m[i]? = some (some (.lst ds)) ∧ P (enumD ds) (m.set i none) j := rfl
@[simp ↓] theorem a_forJ : sForJ fj γ fb m j PS' E = fj m j (fun ds m1 j1 => WL γ fb ds m1 j1 PS' E) E := rfl
end
end Mp

/-! O1: an object while it is made (its state is the closures' state); the object lent as a frozen one while an expression reads it. -/
namespace Mp
open PySem PySem.Spec L2
open PyProof.Rows hiding St
variable {J J' : Type}

/-- an attribute: a value that stays, or a list that the object alone has, at b -/
inductive Fld | val (d : D) | own (b : Addr) (xs : List D)
def Fld.flat : Fld → D
  | .val d => d
  | .own _ xs => .lst xs
structure Ob where
  ad : Addr
  c : Nat
  fs : List (Str × Fld)
def flatF : List (Str × Fld) → List (Str × D)
  | [] => []
  | (k, f) :: r => (k, f.flat) :: flatF r
def Ob.flat (o : Ob) : D := .ins o.c (flatF o.fs)
def ownsF : List (Str × Fld) → List Addr
  | [] => []
  | (_, .val _) :: r => ownsF r
  | (_, .own b _) :: r => b :: ownsF r
def putFld (k : Str) (f : Fld) : List (Str × Fld) → List (Str × Fld)
  | [] => [(k, f)]
  | (g, x) :: r => if g = k then (g, f) :: r else (g, x) :: putFld k f r
def setL (k : Str) (ys : List D) : List (Str × Fld) → List (Str × Fld)
  | [] => []
  | (g, x) :: r => if g = k then (g, match x with | .own b _ => .own b ys | .val d => .val d) :: r else (g, x) :: setL k ys r
def getF (k : Str) : List (Str × Fld) → Option Fld
  | [] => none
  | (g, x) :: r => if g = k then some x else getF k r
def Ob.put (o : Ob) (k : Str) (f : Fld) : Ob := ⟨o.ad, o.c, putFld k f o.fs⟩
def Ob.setL (o : Ob) (k : Str) (ys : List D) : Ob := ⟨o.ad, o.c, Mp.setL k ys o.fs⟩

/-! ### the same data under another source -/
mutual
theorem Rp.cv {S : Js J} {S' : Js J'} {F : Hp} (hK : S.K = S'.K) (hR : S.R = S'.R) (hc : S.cl = S'.cl) (hx : S.xc = S'.xc := by rfl) (hf : S.xf = S'.xf := by rfl) : ∀ {d : D} {v : V}, Rp S F d v → Rp S' F d v
  | _, _, .non => .non
  | _, _, .bl b => .bl b
  | _, _, .int i => .int i
  | _, _, .str x => .str x
  | _, _, .tup h t => .tup (hK ▸ h) (RpL.cv hK hR hc hx hf t)
  | _, _, .lst h t => .lst h (RpL.cv hK hR hc hx hf t)
  | _, _, .dct h l t => .dct h l (RpL.cv hK hR hc hx hf t)
  | _, _, .jar => hR ▸ .jar
  | _, _, .obj a => .obj a
  | _, _, .ins h l t => .ins (hc ▸ h) l (RpL.cv hK hR hc hx hf t)
  | _, _, .dtp h l t => .dtp h l (RpL.cv hK hR hc hx hf t)
  | _, _, .exc0 h => .exc0 (hx ▸ h)
  | _, _, .exc1 h h2 t => .exc1 (hx ▸ h) (hf ▸ h2) (Rp.cv hK hR hc hx hf t)
theorem RpL.cv {S : Js J} {S' : Js J'} {F : Hp} (hK : S.K = S'.K) (hR : S.R = S'.R) (hc : S.cl = S'.cl) (hx : S.xc = S'.xc := by rfl) (hf : S.xf = S'.xf := by rfl) : ∀ {ds : List D} {vs : List V}, RpL S F ds vs → RpL S' F ds vs
  | _, _, .nil => .nil
  | _, _, .cons h t => .cons (Rp.cv hK hR hc hx hf h) (RpL.cv hK hR hc hx hf t)
end

/-! ### how it lies -/
inductive FldR (S : Js J) (F H : Hp) (A : Addr → Prop) : Fld → V → Prop
  | val {d : D} {v : V} : Rp S F d v → FldR S F H A (.val d) v
  | own {b : Addr} {xs : List D} {vs : List V} : H b = some (.lst vs) → RpL S F xs vs → A b → FldR S F H A (.own b xs) (.ref b)
inductive FldsR (S : Js J) (F H : Hp) (A : Addr → Prop) : List (Str × Fld) → List (Str × V) → Prop
  | nil : FldsR S F H A [] []
  | cons {k : Str} {f : Fld} {v : V} {fs : List (Str × Fld)} {kvs : List (Str × V)} : FldR S F H A f v → FldsR S F H A fs kvs → FldsR S F H A ((k, f) :: fs) ((k, v) :: kvs)
structure ObR (S : Js J) (o : Ob) (F : Hp) (A : Addr → Prop) (H : Hp) : Prop where
  ex : ∃ dx kvs, H o.ad = some (.ins (S.cl o.c) dx kvs) ∧ H dx = some (.own o.ad) ∧ A dx ∧ FldsR S F H A o.fs kvs
  at_ : A o.ad
  nd : (ownsF o.fs).Nodup
  dm : ∀ b, A b → H b ≠ none
section
variable {S : Js J} {F F' H H' : Hp} {A : Addr → Prop} {o : Ob} {fs : List (Str × Fld)} {kvs : List (Str × V)} {k : Str} {f : Fld}
theorem FldR.mono {v : V} (h : FldR S F H A f v) (s : Same F F') (q : ∀ b, A b → H' b = H b) : FldR S F' H' A f v := by
  cases h with
  | val r => exact .val (r.mono s)
  | own e r a => exact .own ((q _ a).trans e) (r.mono s) a
theorem FldsR.mono (s : Same F F') (q : ∀ b, A b → H' b = H b) : ∀ {fs : List (Str × Fld)} {kvs : List (Str × V)}, FldsR S F H A fs kvs → FldsR S F' H' A fs kvs
  | _, _, .nil => .nil
  | _, _, .cons h t => .cons (h.mono s q) (t.mono s q)
theorem ObR.frame (h : ObR S o F A H) (s : Same F F') (q : ∀ b, A b → H' b = H b) : ObR S o F' A H' := by
  obtain ⟨⟨dx, kvs, e1, e2, e3, e4⟩, h2, h3, h4⟩ := h
  exact ⟨⟨dx, kvs, (q _ h2).trans e1, (q _ e3).trans e2, e3, e4.mono s q⟩, h2, h3, fun b hb => by rw [q b hb]; exact h4 b hb⟩
theorem FldsR.get : ∀ {fs : List (Str × Fld)} {kvs : List (Str × V)}, FldsR S F H A fs kvs → getF k fs = some f → ∃ v, kvs.lookup k = some v ∧ FldR S F H A f v
  | _, _, .nil, e => by cases e
  | _, _, .cons (k := g) (v := v) (kvs := kvs) h t, e => by
    unfold getF at e
    by_cases c : g = k
    · rw [if_pos c] at e
      cases e
      subst c
      exact ⟨v, by simp [List.lookup], h⟩
    · rw [if_neg c] at e
      obtain ⟨v', e1, r⟩ := t.get e
      exact ⟨v', by rw [List.lookup_cons, show (k == g) = false from beq_eq_false_iff_ne.mpr (Ne.symm c)]; exact e1, r⟩
theorem FldsR.len : ∀ {fs : List (Str × Fld)} {kvs : List (Str × V)}, FldsR S F H A fs kvs → fs.length = kvs.length
  | _, _, .nil => rfl
  | _, _, .cons h t => by rw [List.length_cons, List.length_cons, t.len]
theorem FldsR.put {v : V} (hf : FldR S F H A f v) : ∀ {fs : List (Str × Fld)} {kvs : List (Str × V)}, FldsR S F H A fs kvs → FldsR S F H A (putFld k f fs) (putF k v kvs)
  | _, _, .nil => .cons hf .nil
  | _, _, .cons (k := g) h t => by
    unfold putFld
    show FldsR S F H A _ (if g = k then _ else _)
    by_cases c : g = k
    · rw [if_pos c, if_pos c]; exact .cons hf t
    · rw [if_neg c, if_neg c]; exact .cons h (t.put hf)
theorem FldsR.upd_ne {b : Addr} {u : HO} : ∀ {fs : List (Str × Fld)} {kvs : List (Str × V)}, FldsR S F H A fs kvs → b ∉ ownsF fs → FldsR S F (upd H b u) A fs kvs
  | _, _, .nil, _ => .nil
  | _, _, .cons (f := .val d) h t, n => by
    cases h with
    | val r => exact .cons (.val r) (t.upd_ne n)
  | _, _, .cons (f := .own c xs) h t, n => by
    have n' : b ∉ c :: ownsF _ := n
    rw [List.mem_cons, not_or] at n'
    cases h with
    | own e r a => exact .cons (.own (by rw [L2.upd_ne (Ne.symm n'.1)]; exact e) r a) (t.upd_ne n'.2)
theorem owns_mem {b : Addr} {xs : List D} : ∀ {fs : List (Str × Fld)}, getF k fs = some (.own b xs) → b ∈ ownsF fs
  | [], e => by cases e
  | (g, .val d) :: r, e => by
    unfold getF at e
    by_cases c : g = k
    · rw [if_pos c] at e; cases e
    · rw [if_neg c] at e; exact owns_mem (fs := r) e
  | (g, .own c ys) :: r, e => by
    unfold getF at e
    show b ∈ c :: ownsF r
    by_cases q : g = k
    · rw [if_pos q] at e; cases e; exact List.mem_cons_self
    · rw [if_neg q] at e; exact List.mem_cons_of_mem _ (owns_mem (fs := r) e)
theorem owns_setL {ys : List D} : ∀ {fs : List (Str × Fld)}, ownsF (Mp.setL k ys fs) = ownsF fs
  | [] => rfl
  | (g, .val d) :: r => by
    unfold Mp.setL
    by_cases c : g = k
    · rw [if_pos c]
    · rw [if_neg c]; exact owns_setL (fs := r)
  | (g, .own b xs) :: r => by
    unfold Mp.setL
    by_cases c : g = k
    · rw [if_pos c]; rfl
    · rw [if_neg c]; show b :: ownsF _ = b :: ownsF _; rw [owns_setL (fs := r)]
theorem FldsR.setL {b : Addr} {xs ys : List D} {ws : List V} (hy : RpL S F ys ws) (ha : A b) : ∀ {fs : List (Str × Fld)} {kvs : List (Str × V)}, FldsR S F H A fs kvs → getF k fs = some (.own b xs) → (ownsF fs).Nodup →
    FldsR S F (upd H b (.lst ws)) A (Mp.setL k ys fs) kvs
  | _, _, .nil, e, _ => by cases e
  | _, _, .cons (k := g) (f := .val d) h t, e, n => by
    unfold getF at e
    unfold Mp.setL
    by_cases c : g = k
    · rw [if_pos c] at e; cases e
    · rw [if_neg c] at e ⊢
      cases h with
      | val r => exact .cons (.val r) (t.setL hy ha e n)
  | _, _, .cons (k := g) (f := .own c zs) h t, e, n => by
    unfold getF at e
    unfold Mp.setL
    have n' : (c :: ownsF _).Nodup := n
    rw [List.nodup_cons] at n'
    by_cases q : g = k
    · rw [if_pos q] at e ⊢
      cases e
      cases h with
      | own e r a => exact .cons (.own upd_same hy a) (t.upd_ne n'.1)
    · rw [if_neg q] at e ⊢
      have hm := owns_mem e
      cases h with
      | own e' r a => exact .cons (.own (by rw [L2.upd_ne (show c ≠ b from fun z => n'.1 (by rw [z]; exact hm))]; exact e') r a) (t.setL hy ha e n'.2)
theorem owns_putV {d : D} : ∀ {fs : List (Str × Fld)}, (ownsF fs).Nodup → (ownsF (putFld k (.val d) fs)).Nodup ∧ ∀ b ∈ ownsF (putFld k (.val d) fs), b ∈ ownsF fs
  | [], n => ⟨List.nodup_nil, fun b h => by cases h⟩
  | (g, .val d') :: r, n => by
    unfold putFld
    by_cases c : g = k
    · rw [if_pos c]; exact ⟨n, fun b h => h⟩
    · rw [if_neg c]; exact owns_putV (fs := r) n
  | (g, .own b xs) :: r, n => by
    unfold putFld
    have n' : (b :: ownsF r).Nodup := n
    rw [List.nodup_cons] at n'
    by_cases c : g = k
    · rw [if_pos c]; exact ⟨n'.2, fun x h => List.mem_cons_of_mem _ h⟩
    · rw [if_neg c]
      obtain ⟨i1, i2⟩ := owns_putV (fs := r) n'.2
      refine ⟨?_, fun x h => ?_⟩
      · show (b :: ownsF _).Nodup
        rw [List.nodup_cons]
        exact ⟨fun z => n'.1 (i2 _ z), i1⟩
      · have h' : x ∈ b :: ownsF (putFld k (.val d) r) := h
        rcases List.mem_cons.mp h' with z | z
        · rw [z]; exact List.mem_cons_self
        · exact List.mem_cons_of_mem _ (i2 _ z)
theorem owns_putO {b0 : Addr} {ys : List D} : ∀ {fs : List (Str × Fld)}, (ownsF fs).Nodup → b0 ∉ ownsF fs → (ownsF (putFld k (.own b0 ys) fs)).Nodup ∧ ∀ b ∈ ownsF (putFld k (.own b0 ys) fs), b = b0 ∨ b ∈ ownsF fs
  | [], n, _ => ⟨by simp [putFld, ownsF], fun b h => .inl (by simpa [putFld, ownsF] using h)⟩
  | (g, .val d') :: r, n, m => by
    unfold putFld
    by_cases c : g = k
    · rw [if_pos c]
      refine ⟨?_, fun b h => ?_⟩
      · show (b0 :: ownsF r).Nodup
        rw [List.nodup_cons]; exact ⟨m, n⟩
      · exact List.mem_cons.mp (show b ∈ b0 :: ownsF r from h)
    · rw [if_neg c]; exact owns_putO (fs := r) n m
  | (g, .own b xs) :: r, n, m => by
    unfold putFld
    have n' : (b :: ownsF r).Nodup := n
    have m' : b0 ∉ b :: ownsF r := m
    rw [List.nodup_cons] at n'
    rw [List.mem_cons, not_or] at m'
    by_cases c : g = k
    · rw [if_pos c]
      refine ⟨?_, fun x h => ?_⟩
      · show (b0 :: ownsF r).Nodup
        rw [List.nodup_cons]; exact ⟨m'.2, n'.2⟩
      · rcases List.mem_cons.mp (show x ∈ b0 :: ownsF r from h) with z | z
        · exact .inl z
        · exact .inr (List.mem_cons_of_mem _ z)
    · rw [if_neg c]
      obtain ⟨i1, i2⟩ := owns_putO (fs := r) n'.2 m'.2
      refine ⟨?_, fun x h => ?_⟩
      · show (b :: ownsF _).Nodup
        rw [List.nodup_cons]
        exact ⟨fun z => (i2 _ z).elim (fun q => m'.1 q.symm) n'.1, i1⟩
      · rcases List.mem_cons.mp (show x ∈ b :: ownsF (putFld k (.own b0 ys) r) from h) with z | z
        · exact .inr (by rw [z]; exact List.mem_cons_self)
        · exact (i2 _ z).imp id (List.mem_cons_of_mem _)
theorem FldsR.ownA : ∀ {fs : List (Str × Fld)} {kvs : List (Str × V)}, FldsR S F H A fs kvs → ∀ b ∈ ownsF fs, A b ∧ ∃ vs, H b = some (.lst vs)
  | _, _, .nil, b, h => by cases h
  | _, _, .cons (f := .val d) h t, b, m => t.ownA b m
  | _, _, .cons (f := .own c xs) h t, b, m => by
    rcases List.mem_cons.mp (show b ∈ c :: ownsF _ from m) with z | z
    · subst z
      cases h with
      | own e r a => exact ⟨a, _, e⟩
    · exact t.ownA b z
end

/-- the source while an object is made: the object -/
def jsO (S : Js J) : Js Ob where
  K := S.K
  R := S.R
  cl := S.cl
  xc := S.xc
  xf := S.xf
  rep := fun o F A H => ObR S o F A H
  frame := fun h s q => h.frame s q
  dom := fun h a => h.dm _ a
/-- no source -/
def js0 (S : Js J) : Js Unit where
  K := S.K
  R := S.R
  cl := S.cl
  xc := S.xc
  xf := S.xf
  rep := fun _ _ A _ => ∀ b, ¬ A b
  frame := fun h _ _ => h
  dom := fun h a => (h _ a).elim
instance {S : Js J} : PureJ (js0 S) := ⟨fun h => h⟩

/-! ### data without lists and objects -/
mutual
def tupD : D → Bool
  | .non => true
  | .bl _ => true
  | .int _ => true
  | .str _ => true
  | .tup xs => tupDL xs
  | _ => false
def tupDL : List D → Bool
  | [] => true
  | x :: r => tupD x && tupDL r
end
def freshB : D → Bool
  | .lst xs => tupDL xs
  | _ => false
mutual
theorem Rp.tupD {S : Js J} {S' : Js J'} {F F' : Hp} (hK : S.K = S'.K) (s : ∀ b o u, F b = some (.frz o u) → F' b = some (.frz o u)) : ∀ {d : D} {v : V}, Rp S F d v → Mp.tupD d = true → Rp S' F' d v
  | _, _, .non, _ => .non
  | _, _, .bl b, _ => .bl b
  | _, _, .int i, _ => .int i
  | _, _, .str x, _ => .str x
  | _, _, .tup (a := a) (vs := vs) h t, e => .tup (by
      rw [← hK]
      rcases h with ⟨o, h1, h2⟩ | h
      · exact .inl ⟨o, s _ _ _ h1, h2⟩
      · exact .inr h) (RpL.tupD hK s t (by unfold Mp.tupD at e; exact e))
  | _, _, .lst h t, e => by unfold Mp.tupD at e; cases e
  | _, _, .dct h l t, e => by unfold Mp.tupD at e; cases e
  | _, _, .jar, e => by unfold Mp.tupD at e; cases e
  | _, _, .obj a, e => by unfold Mp.tupD at e; cases e
  | _, _, .ins h l t, e => by unfold Mp.tupD at e; cases e
theorem RpL.tupD {S : Js J} {S' : Js J'} {F F' : Hp} (hK : S.K = S'.K) (s : ∀ b o u, F b = some (.frz o u) → F' b = some (.frz o u)) : ∀ {ds : List D} {vs : List V}, RpL S F ds vs → tupDL ds = true → RpL S' F' ds vs
  | _, _, .nil, _ => .nil
  | _, _, .cons h t, e => by
    unfold tupDL at e
    rw [Bool.and_eq_true] at e
    exact .cons (Rp.tupD hK s h e.1) (RpL.tupD hK s t e.2)
end

end Mp

/-! O2: the object lent as a frozen one while an expression reads it. -/
namespace Mp
open PySem PySem.Spec L2
open PyProof.Rows hiding St
variable {J J' : Type}
def Ob.over (o : Ob) (H F : Hp) : Hp := fun b => if b = o.ad ∨ b ∈ ownsF o.fs then H b else F b
def Ob.less (o : Ob) (F : Hp) : Hp := fun b => if b = o.ad ∨ b ∈ ownsF o.fs then none else F b
theorem Own.cv {S : Js J} {S' : Js J'} {g : Gh} {d : D} {a : Addr} (hK : S.K = S'.K) (hR : S.R = S'.R) (hc : S.cl = S'.cl) (hx : S.xc = S'.xc) (hf : S.xf = S'.xf) (h : Own S g d a) : Own S' g d a := by
  obtain ⟨n, ⟨ds, vs, e, e2, t⟩ | ⟨kds, kvs, e, e2, e3, t⟩ | ⟨kds, kvs, e, e2, e3, t⟩⟩ := h
  · exact ⟨n, .inl ⟨ds, vs, e, e2, t.cv hK hR hc hx hf⟩⟩
  · exact ⟨n, .inr (.inl ⟨kds, kvs, e, e2, e3, t.cv hK hR hc hx hf⟩)⟩
  · exact ⟨n, .inr (.inr ⟨kds, kvs, e, e2, e3, t.cv hK hR hc hx hf⟩)⟩
theorem Slots.cv {S : Js J} {S' : Js J'} {g : Gh} {M : Nat → Bool} {r : St} {m : Sd} (hK : S.K = S'.K) (hR : S.R = S'.R) (hc : S.cl = S'.cl) (hx : S.xc = S'.xc) (hf : S.xf = S'.xf) (h : Slots S g M r m) : Slots S' g M r m :=
  ⟨h.len, fun i d e q => let ⟨v, h1, h2⟩ := h.fr i d e q; ⟨v, h1, h2.cv hK hR hc hx hf⟩, fun i d e q => let ⟨a, h1, h2⟩ := h.ow i d e q; ⟨a, h1, h2.cv hK hR hc hx hf⟩, h.dj⟩
section
variable {S : Js J} {o : Ob} {F H : Hp} {A : Addr → Prop} {B : Bs} {g : Gh} {M : Nat → Bool} {r : St} {m : Sd}
theorem over_in {b : Addr} (h : b = o.ad ∨ b ∈ ownsF o.fs) : o.over H F b = H b := if_pos h
theorem over_out {b : Addr} (h : ¬ (b = o.ad ∨ b ∈ ownsF o.fs)) : o.over H F b = F b := if_neg h
theorem flat_keys : ∀ {fs : List (Str × Fld)} {kvs : List (Str × V)}, FldsR S F H A fs kvs → (flatF fs).map Prod.fst = kvs.map Prod.fst
  | _, _, .nil => rfl
  | _, _, .cons h t => by simp only [flatF, List.map_cons]; rw [flat_keys t]
theorem flat_vals {S' : Js J'} {F' : Hp} (hK : S.K = S'.K) (hR : S.R = S'.R) (hc : S.cl = S'.cl) (hx : S.xc = S'.xc) (hf : S.xf = S'.xf) (s : Same F F') : ∀ {fs : List (Str × Fld)} {kvs : List (Str × V)}, FldsR S F H A fs kvs → (∀ b ∈ ownsF fs, ∀ u, H b = some u → F' b = some u) → RpL S' F' ((flatF fs).map Prod.snd) (kvs.map Prod.snd)
  | _, _, .nil, _ => .nil
  | _, _, .cons (f := .val d) h t, q => by
    cases h with
    | val r => exact .cons ((r.mono s).cv hK hR hc hx hf) (flat_vals hK hR hc hx hf s t q)
  | _, _, .cons (f := .own b xs) h t, q => by
    cases h with
    | own e r a => exact .cons (.lst (q b List.mem_cons_self _ e) ((r.mono s).cv hK hR hc hx hf)) (flat_vals hK hR hc hx hf s t fun b hb => q b (List.mem_cons_of_mem _ hb))
/-- the object, frozen -/
theorem ObR.flat {S' : Js J'} {F' : Hp} (h : ObR S o F A H) (hK : S.K = S'.K) (hR : S.R = S'.R) (hc : S.cl = S'.cl) (hx : S.xc = S'.xc) (hf : S.xf = S'.xf) (s : Same F F') (q : ∀ b, b = o.ad ∨ b ∈ ownsF o.fs → ∀ u, H b = some u → F' b = some u) : Rp S' F' o.flat (.ref o.ad) := by
  obtain ⟨dx, kvs, e1, e2, e3, e4⟩ := h.ex
  exact .ins (by rw [← hc]; exact q _ (.inl rfl) _ e1) (flat_keys e4) (flat_vals hK hR hc hx hf s e4 fun b hb => q b (.inr hb))
theorem ObR.area (h : ObR S o F A H) {b : Addr} (hb : b = o.ad ∨ b ∈ ownsF o.fs) : A b ∧ ∃ u, H b = some u ∧ ∀ x y, u ≠ .frz x y := by
  obtain ⟨dx, kvs, e1, e2, e3, e4⟩ := h.ex
  rcases hb with rfl | hb
  · exact ⟨h.at_, _, e1, by intro x y z; cases z⟩
  · obtain ⟨a, vs, e⟩ := e4.ownA b hb
    exact ⟨a, _, e, by intro x y z; cases z⟩
end

/-! ### the combinators -/
def eLend (f : Ev Unit) (m : Sd) (o : Ob) (P : D → Ob → Prop) (E : XP Ob) : Prop := m[0]? = some (some (.obj o.ad)) ∧ f (m.set 0 (some o.flat)) () (fun d _ => tupD d = true ∧ P d o) xNo
def eLendF (f : Ev Unit) (m : Sd) (o : Ob) (P : D → Ob → Prop) (E : XP Ob) : Prop := m[0]? = some (some (.obj o.ad)) ∧ f (m.set 0 (some o.flat)) () (fun d _ => freshB d = true ∧ P d o) xNo
def tLend (f : Tv Unit) (m : Sd) (o : Ob) (P : Bool → Ob → Prop) (E : XP Ob) : Prop := m[0]? = some (some (.obj o.ad)) ∧ f (m.set 0 (some o.flat)) () (fun d _ => P d o) xNo
instance {f : Ev Unit} [h : MoE f] : MoE (eLend f) := ⟨fun ⟨e, p⟩ q _ => ⟨e, h.mo p (fun _ _ ⟨a, b⟩ => ⟨a, q _ _ b⟩) fun _ _ _ z => z⟩⟩
instance {f : Ev Unit} [h : MoE f] : MoE (eLendF f) := ⟨fun ⟨e, p⟩ q _ => ⟨e, h.mo p (fun _ _ ⟨a, b⟩ => ⟨a, q _ _ b⟩) fun _ _ _ z => z⟩⟩
instance {f : Tv Unit} [h : MoT f] : MoT (tLend f) := ⟨fun ⟨e, p⟩ q _ => ⟨e, h.mo p (fun _ _ b => q _ _ b) fun _ _ _ z => z⟩⟩
section
variable {S : Js J} {B : Bs} {M : Nat → Bool} {W : WX} {X : Cx} {e : Expr} {f : Ev Unit} {ft : Tv Unit}
end
end Mp

/-! O3: attributes and methods of frozen instances; methods of the object that is made; making. -/
namespace Mp
open PySem PySem.Spec L2
open PyProof.Rows hiding St
variable {J J' : Type}
def getK (k : Str) : List (Str × D) → Option D
  | [] => none
  | (g, x) :: r => if g = k then some x else getK k r
/-- the facts of a class -/
structure ClsT (S : Js J) (c : Nat) (attrs : List Str) : Prop where
  cls : Cls S.K (S.cl c)
  no : ∀ f ∈ attrs, NoAttr S.K (S.cl c) f
/-- a method -/
structure Mth (S : Js J) (P : Program) (w : World) (mg : Str → Option Value) (base : Heap) (k : Nat) (c : Nat) (nm : Str) (n : Nat) (φ : Fv J) : Prop where
  ex : ∃ f fd ps, Meth S.K (S.cl c) nm f ∧ FnG P w S.K mg base (L2.CX P w) k f fd ps (spF S n φ) ∧ Binds S.K fd ps []
  ln : ∀ ds j P E, φ ds j P E → ds.length = n
def tMthG (C : Addr) (m : Str) (sp : Sp) (E : St → XK) (ta : TE) (t : TA) : TE := fun σ H Q => ta σ H fun x H1 => ∃ a dx fs, x = .ref a ∧ H1 a = some (.ins C dx fs) ∧ fs.lookup m = none ∧ t σ H1 fun vs H2 => sp (x :: vs) H2 Q (E σ)
section
variable {X : Cx} {CX : CXT} {k : Nat} {f C : Addr} {fd : FuncData} {ps : List Str} {sp : Sp} {E : St → XK} {x m : Str} {p pos apos : Pos} {e o : Expr} {es : List Expr} {ta : TE} {t : TA}
theorem pe_mthG {pl : Sem Bool} (he : PE X o ta) (c : Cls X.K C) (hm : Meth X.K C m f) (F : FnG X.prog X.w X.K X.mg X.base CX k f fd ps sp) (hr : Room k X.A) (hgd : X.A.guards = some []) (hb : Binds X.K fd ps []) (hx : ∀ σ, PassesAt CX X σ (E σ)) (ha : PA X (e :: es) t)
    (hst : starEach (e :: es) X.env = (false, eval e X.env) :: starEach es X.env) (hpl : (backTo pos (starEach es X.env)).any (·.1) = false)
    (ht : eval (.Call (.Attribute o m apos) (e :: es) [] pos) X.env = (do
      let ov ← eval o X.env
      standAt apos.atName
      let (f, first) ← holding [ov] (getMethod ov m pl)
      callWith pos f first (backTo pos (starEach (e :: es) X.env)) (backToKw pos (keywordEach [] X.env)))) :
    PE X (.Call (.Attribute o m apos) (e :: es) [] pos) (tMthG C m sp E ta t) := by
  refine ⟨fun pins s σ H Q I h => ?_⟩
  refine PySem.W.methodCall_KW (pl := pl) (thn (he.run pins s σ H _ I h) fun u s1 ⟨x, H1, I1, rx, a, dx, fs, ex, ea, l, q⟩ => ?_) ht
  subst ex
  obtain rfl : u = Value.ref a := rx
  refine getmeth_ok I1 ea c hm l ?_
  refine PySem.W.callWith_K (first := [.ref a]) (h₀ := X.base) I.ok.mod.kin hm.kp (thn (ha.run pos pins s1 σ H1 _ I1 q) fun us s2 ⟨vs, H2, I2, r, q2⟩ => ⟨I2.kIn, ?_⟩) hst hpl
  exact run_fnGS (us := .ref a :: us) (vs := .ref a :: vs) F hr hgd hb (hx σ) I2 (.cons rfl r) q2
theorem pe_mthG0 {pl : Sem Bool} (he : PE X o ta) (c : Cls X.K C) (hm : Meth X.K C m f) (F : FnG X.prog X.w X.K X.mg X.base CX k f fd ps sp) (hr : Room k X.A) (hgd : X.A.guards = some []) (hb : Binds X.K fd ps []) (hx : ∀ σ, PassesAt CX X σ (E σ))
    (ht : eval (.Call (.Attribute o m apos) [] [] pos) X.env = (do
      let ov ← eval o X.env
      standAt apos.atName
      let (f, first) ← holding [ov] (getMethod ov m pl)
      callWith pos f first (backTo pos (starEach [] X.env)) (backToKw pos (keywordEach [] X.env)))) :
    PE X (.Call (.Attribute o m apos) [] [] pos) (tMthG C m sp E ta tNil) := by
  refine ⟨fun pins s σ H Q I h => ?_⟩
  refine PySem.W.methodCall_KW (pl := pl) (thn (he.run pins s σ H _ I h) fun u s1 ⟨x, H1, I1, rx, a, dx, fs, ex, ea, l, q⟩ => ?_) ht
  subst ex
  obtain rfl : u = Value.ref a := rx
  refine getmeth_ok I1 ea c hm l ?_
  exact PySem.W.callWith_K0 (first := [.ref a]) I1.kIn hm.kp (run_fnGS (us := [.ref a]) (vs := [.ref a]) F hr hgd hb (hx σ) I1 (.cons rfl .nil) q)
def tMakG (C : Addr) (sp : Sp) (E : St → XK) (t : TA) : TE := fun σ H Q => t σ H fun vs H1 => ∀ x dx, H1 x = none → H1 dx = none → dx ≠ x →
  sp (.ref x :: vs) (upd (upd H1 dx (.own x)) x (.ins C dx [])) (fun v H2 => v = .non ∧ Q (.ref x) H2) (E σ)
theorem under_guards {A : Around} {C : Addr} {us : List Value} {kw : List (Str × Value)} (h : A.guards = some []) : (A.under (.builtin "type.__call__" ⟨.ref C :: us, kw⟩)).guards = some [] := by
  first | exact h | (simp [Around.under, Code.envs, Code.isFrame, pushEnvs, guardIds]; first | exact h | simpa using h)
theorem run_makG {pins : List (Addr × Obj)} {σ : St} {H : Hp} {s : Shared} {Q : VK} {us : List Value} {vs : List V} (M : Mk X.K C f) (F : FnG X.prog X.w X.K X.mg X.base CX k f fd ps sp) (hr : Room (k + 1) X.A) (hgd : X.A.guards = some []) (hb : Binds X.K fd ps [])
    (hx : PassesAt CX X σ (E σ)) (I : Inv X pins σ H s) (r : Vals vs us)
    (h : ∀ x dx, H x = none → H dx = none → dx ≠ x → sp (.ref x :: vs) (upd (upd H dx (.own x)) x (.ins C dx [])) (fun v H2 => v = .non ∧ Q (.ref x) H2) (E σ)) :
    wpAny (model X.prog X.w) X.A (call (.ref C) us) (EP X pins σ Q) X.xe s := by
  have hq := h (s.heap.objs.size + 1) s.heap.objs.size (I.hok.fresh (Nat.le_succ _)) (I.hok.fresh (Nat.le_refl _)) (Nat.ne_of_lt (Nat.lt_succ_self _))
  have I2 := Inv.made (C := C) I
  have r2 : Vals (V.ref (s.heap.objs.size + 1) :: vs) (Value.ref (s.heap.objs.size + 1) :: us) := .cons rfl r
  have hl : (Value.ref (s.heap.objs.size + 1) :: us).length = ps.length := by
    have e := r2.length
    rw [F.len _ _ _ _ hq] at e
    exact e.symm
  have b := hb { s with heap := (s.heap.push PySem.W.emptyDict).push (PySem.W.instObj C s.heap.objs.size) } (Value.ref (s.heap.objs.size + 1) :: us) I2.kIn (by rw [List.append_nil]; exact hl)
  rw [List.append_nil] at b
  refine wpAny_call (make_map (f := f) I.kIn M.makes M.init (beq_iff_eq.mp M.fn) (codeAny_mono (F.run _ X.stack _ _ ⟨Value.ref (s.heap.objs.size + 1) :: us, []⟩ (Value.ref (s.heap.objs.size + 1) :: us) _ _ (E σ) (hr.make C us []) (under_guards hgd)
    (I2.env0.make C us []) b r2 hq) fun r s' hq' => ?_))
  cases r with
  | error e => exact hx pins _ _ e s' I2 hq'
  | ok fl =>
    cases fl with
    | ret u =>
      obtain ⟨v, H', I3, rv, ev, q3⟩ := I2.after hq'
      subst ev
      exact ⟨rv, ⟨V.ref (s.heap.objs.size + 1), H', I3, rfl, q3⟩⟩
    | next => exact False.elim hq'
    | brk => exact False.elim hq'
    | cont => exact False.elim hq'
theorem pe_makG (M : Mk X.K C f) (F : FnG X.prog X.w X.K X.mg X.base CX k f fd ps sp) (hr : Room (k + 1) X.A) (hgd : X.A.guards = some []) (hg : Gl X x) (hm : X.mg x = some (.ref C)) (hb : Binds X.K fd ps []) (hx : ∀ σ, PassesAt CX X σ (E σ))
    (ha : PA X (e :: es) t) (hdb : (x == ("__debug__" : Str)) = false) (he : starEach (e :: es) X.env = (false, eval e X.env) :: starEach es X.env) (hpl : (backTo pos (starEach es X.env)).any (·.1) = false) :
    PE X (.Call (.Name x p) (e :: es) [] pos) (tMakG C sp E t) := by
  refine ⟨fun pins s σ H Q I h => ?_⟩
  refine wpAny_Call_Name_kw (ld_glob I hg hm ?_ hdb)
  refine PySem.W.callWith_K (h₀ := X.base) I.ok.mod.kin M.kp (thn (ha.run pos pins s σ H _ I h) fun us s1 ⟨vs, H1, I1, r, q⟩ => ⟨I1.kIn, ?_⟩) he hpl
  exact run_makG M F hr hgd hb (hx σ) I1 r q
end

/-! ### frozen instances -/
def eAt (c : Nat) (f : Str) (fo : Ev J) (m : Sd) (j : J) (P : D → J → Prop) (E : XP J) : Prop := fo m j (fun x j1 => ∃ kds d, x = .ins c kds ∧ getK f kds = some d ∧ P d j1) E
def eMt1 (c : Nat) (nm : Str) (φ : Fv J) (fo : Ev J) (fa : Av J) (m : Sd) (j : J) (P : D → J → Prop) (E : XP J) : Prop :=
  fo m j (fun x j1 => ∃ kds, x = .ins c kds ∧ getK nm kds = none ∧ fa m j1 (fun xs j2 => φ (x :: xs) j2 P (fun e j' => E e m j')) E) E
/-- .. of the object that is made -/
def eMtO (c : Nat) (nm : Str) (φ : Fv Ob) (fo : Ev Ob) (fa : Av Ob) (m : Sd) (o : Ob) (P : D → Ob → Prop) (E : XP Ob) : Prop :=
  fo m o (fun x o1 => x = .obj o1.ad ∧ o1.c = c ∧ getF nm o1.fs = none ∧ fa m o1 (fun xs o2 => φ (x :: xs) o2 P (fun e j' => E e m j')) E) E
/-- a new object -/
def eMak (c : Nat) (φ : Fv Ob) (fa : Av J) (m : Sd) (j : J) (P : D → J → Prop) (E : XP J) : Prop :=
  fa m j (fun xs j1 => ∀ a, φ (.obj a :: xs) ⟨a, c, []⟩ (fun d o => d = .non ∧ o.ad = a ∧ o.c = c ∧ P o.flat j1) (fun e _ => E e m j1)) E
instance {c : Nat} {f : Str} {fo : Ev J} [h : MoE fo] : MoE (eAt c f fo) := ⟨fun h1 q x => h.mo h1 (fun _ _ ⟨k, d, a, b, p⟩ => ⟨k, d, a, b, q _ _ p⟩) x⟩
instance {c : Nat} {nm : Str} {φ : Fv J} {fo : Ev J} {fa : Av J} [h : MoE fo] [ha : MoA fa] [hf : MoF φ] : MoE (eMt1 c nm φ fo fa) := ⟨fun h1 q x => h.mo h1 (fun _ _ ⟨k, a, b, p⟩ => ⟨k, a, b, ha.mo p (fun _ _ p => hf.mo p q fun _ _ => x _ _ _) x⟩) x⟩
instance {c : Nat} {nm : Str} {φ : Fv Ob} {fo : Ev Ob} {fa : Av Ob} [h : MoE fo] [ha : MoA fa] [hf : MoF φ] : MoE (eMtO c nm φ fo fa) := ⟨fun h1 q x => h.mo h1 (fun _ _ ⟨k, a, b, p⟩ => ⟨k, a, b, ha.mo p (fun _ _ p => hf.mo p q fun _ _ => x _ _ _) x⟩) x⟩
instance {c : Nat} {φ : Fv Ob} {fa : Av J} [ha : MoA fa] [hf : MoF φ] : MoE (eMak c φ fa) := ⟨fun h1 q x => ha.mo h1 (fun _ _ p a => hf.mo (p a) (fun _ _ ⟨a, b, c, p⟩ => ⟨a, b, c, q _ _ p⟩) fun _ _ => x _ _ _) x⟩
section
variable {S : Js J} {B : Bs} {M : Nat → Bool} {W : WX} {X : Cx} {e o : Expr} {es : List Expr} {pos p apos : Pos} {fo : Ev J} {fr : Av J} {φ : Fv J} {k n c : Nat} {nm f x : Str} {attrs : List Str} {ci : Bool}
theorem getK_of {F : Hp} : ∀ {kds : List (Str × D)} {kvs : List (Str × V)} {d : D}, kds.map Prod.fst = kvs.map Prod.fst → RpL S F (kds.map Prod.snd) (kvs.map Prod.snd) → getK f kds = some d → ∃ v, kvs.lookup f = some v ∧ Rp S F d v
  | [], [], d, _, _, e => by cases e
  | (g, x) :: r, (g', y) :: r', d, h1, h2, e => by
    simp only [List.map_cons, List.cons.injEq] at h1
    obtain ⟨rfl, h1⟩ := h1
    cases h2 with
    | cons r1 r2 =>
      unfold getK at e
      by_cases c : g = f
      · rw [if_pos c] at e; cases e
        exact ⟨y, by simp [List.lookup, c], r1⟩
      · rw [if_neg c] at e
        obtain ⟨v, e1, r3⟩ := getK_of h1 r2 e
        exact ⟨v, by rw [List.lookup_cons, show (f == g) = false from beq_eq_false_iff_ne.mpr (Ne.symm c)]; exact e1, r3⟩
  | [], _ :: _, _, h, _, _ => by simp at h
  | _ :: _, [], _, h, _, _ => by simp at h
theorem getK_no : ∀ {kds : List (Str × D)} {kvs : List (Str × V)}, kds.map Prod.fst = kvs.map Prod.fst → getK f kds = none → kvs.lookup f = none
  | [], [], _, _ => rfl
  | (g, x) :: r, (g', y) :: r', h1, e => by
    simp only [List.map_cons, List.cons.injEq] at h1
    obtain ⟨rfl, h1⟩ := h1
    unfold getK at e
    by_cases c : g = f
    · rw [if_pos c] at e; cases e
    · rw [if_neg c] at e
      rw [List.lookup_cons, show (f == g) = false from beq_eq_false_iff_ne.mpr (Ne.symm c)]
      exact getK_no h1 e
  | [], _ :: _, h, _ => by simp at h
  | _ :: _, [], h, _ => by simp at h
theorem ins_of {F : Hp} {kds : List (Str × D)} {v : V} (h : Rp S F (.ins c kds) v) : ∃ a dx kvs, v = .ref a ∧ F a = some (.ins (S.cl c) dx kvs) ∧ kds.map Prod.fst = kvs.map Prod.fst ∧ RpL S F (kds.map Prod.snd) (kvs.map Prod.snd) := by
  cases h; exact ⟨_, _, _, rfl, by assumption, by assumption, by assumption⟩
theorem e_at (hK : X.K = S.K) (T : ClsT S c attrs) (hf : f ∈ attrs) (he : PE X e (rdE S B M W (ofB ci) fo)) (hb : attributeBase e f X.env (eval e X.env) = eval e X.env) : PE X (.Attribute e f pos) (rdE S B M W (ofB ci) (eAt c f fo)) :=
  PE.imp (pe_fld he hb) fun r H Q ⟨g, m, j, P, E, ok, h, q, xo⟩ => by
    refine ⟨g, m, j, _, E, ok, h, fun d j1 g1 v H1 hh l1 ok1 w => ?_, xo⟩
    obtain ⟨kds, d', rfl, hg, p⟩ := hh
    obtain ⟨a, dx, kvs, rfl, ha, hk, rk⟩ := ins_of (rp_hp w)
    obtain ⟨v, e1, r1⟩ := getK_of hk rk hg
    exact ⟨a, _, dx, kvs, v, rfl, (ok1.b.sub ci) _ _ ha, hK ▸ T.cls, hK ▸ T.no f hf, e1, q d' j1 g1 v H1 p l1 ok1 (by cases ci <;> exact r1)⟩
theorem tMth_rd (hφ : ∀ ds j P E, φ ds j P E → ds.length = n) {R : St} {H : Hp} {Q : VK} (h : rdE S B M W .clean (eMt1 c nm φ fo fr) R H Q) : tMthG (S.cl c) nm (spF S n φ) (WE W) (rdE S B M W .clean fo) (rdA S B M W true fr) R H Q := by
  obtain ⟨g, m, j, P, E, ok, hf, q, xo⟩ := h
  refine ⟨g, m, j, _, E, ok, hf, fun x j0 g0 v0 H0 p0 l0 ok0 w0 => ?_, xo⟩
  obtain ⟨kds, rfl, hg, p0⟩ := p0
  obtain ⟨a, dx, kvs, rfl, ha, hk, rk⟩ := ins_of w0
  refine ⟨a, dx, kvs, rfl, (ok0.b.fg.trans ok0.b.gh) _ _ ha, getK_no hk hg, g0, m, j0, _, E, ok0, p0, fun xs j1 g1 vs H1 p1 l1 ok1 w1 => ?_, xo.le l0.f⟩
  have w0' : Rp S g1.F (.ins c kds) (.ref a) := Rp.mono l1.f w0
  refine ⟨g1.F, g1.A, j1, _, P, _, ok1.b.fg.trans ok1.b.gh, fun b o e => ok1.b.ga b o (ok1.b.fg b o e), ok1.b.jr, ok1.b.sm, .cons w0' w1, hφ _ _ _ _ p1, p1, fun d j' F' A' H' v pd pp rv => ?_, fun e j' F' A' H' cls dx pe pp rv => ?_⟩
  · obtain ⟨l2, ok2⟩ := post_clean ok1.b pp
    exact q d j' _ v H' pd ((l0.trans l1).trans l2) ⟨ok2, ok1.s.le l2⟩ rv
  · obtain ⟨l2, ok2⟩ := post_clean ok1.b pp
    exact xo e m j' _ R H' cls dx pe ((l0.trans l1).trans l2).f ⟨ok2, ok1.s.le l2⟩ rv
/-- behind the making of an object: it is frozen -/
theorem post_make {g : Gh} {H H' F' : Hp} {A' : Addr → Prop} {j : J} {o : Ob} {x dx : Addr} {kvs : List (Str × V)} (ok : OkB S B g H j) (hx : H x = none) (hdx : H dx = none)
    (p : FPost (jsO S) g.F (fun b => b = x ∨ b = dx) (upd (upd H dx (.own x)) x (.ins (S.cl c) dx kvs)) F' A' H' o) :
    ∃ g2, Le g g2 ∧ OkB S B g2 H' j ∧ Same F' g2.F ∧ Rp S g2.F o.flat (.ref o.ad) := by
  have jr : ObR S o F' A' H' := p.jr
  have hin : ∀ b u, H b = some u → upd (upd H dx (.own x)) x (.ins (S.cl c) dx kvs) b = some u ∧ ¬ (b = x ∨ b = dx) := fun b u e => by
    have n1 : b ≠ x := fun z => by rw [z, hx] at e; cases e
    have n2 : b ≠ dx := fun z => by rw [z, hdx] at e; cases e
    exact ⟨by rw [upd_ne n1, upd_ne n2]; exact e, fun z => z.elim n1 n2⟩
  have hno : ∀ b, upd (upd H dx (.own x)) x (.ins (S.cl c) dx kvs) b = none → H b = none := fun b e => by
    cases z : H b with
    | none => rfl
    | some u => rw [(hin b u z).1] at e; cases e
  have keep : ∀ b u, H b = some u → H' b = some u := fun b u e => p.keep b u (hin b u e).1 (hin b u e).2
  have arN : ∀ b, b = o.ad ∨ b ∈ ownsF o.fs → H b = none := fun b hb => by
    rcases p.af b (jr.area hb).1 with z | z
    · rcases z with z | z
      · rw [z]; exact hx
      · rw [z]; exact hdx
    · exact hno b z
  have sF : Same F' (o.over H' F') := fun b u e => by
    by_cases hb : b = o.ad ∨ b ∈ ownsF o.fs
    · exact (p.fa b u e (jr.area hb).1).elim
    · rw [over_out hb]; exact e
  have inF : ∀ b u, o.over H' F' b = some u → g.F b = some u ∨ H b = none := fun b u e => by
    by_cases hb : b = o.ad ∨ b ∈ ownsF o.fs
    · exact .inr (arN b hb)
    · rw [over_out hb] at e
      rcases p.ff b u e with z | z
      · exact .inl z
      · exact .inr (hno b z)
  have gg : Same g.G (un2 (o.over H' F') g.G) := fun b u e => by
    unfold un2
    split
    · rename_i u' h
      rcases inF b u' h with z | z
      · rw [ok.fg b u' z] at e; exact e
      · rw [ok.gh b u e] at z; cases z
    · exact e
  refine ⟨⟨o.over H' F', un2 (o.over H' F') g.G, g.A⟩, ⟨p.sub.trans sF, gg, fun b u e => ?_⟩, ⟨un2_l, fun b u e => ?_, fun b u e z => ?_, ?_, (ok.f0.trans p.sub).trans sF, fun b u e => ?_, ok.a0, fun b u e n => keep b u (ok.h0 b u e n), fun b e => ok.h1 b (hno b (p.dm b e)), p.sm⟩, sF, ?_⟩
  · exact (inF b u e).imp id fun z => ok.gh.free z
  · rcases un2_cases e with e | ⟨_, e⟩
    · by_cases hb : b = o.ad ∨ b ∈ ownsF o.fs
      · rw [over_in hb] at e; exact e
      · rw [over_out hb] at e; exact p.fh b u e
    · exact keep b u (ok.gh b u e)
  · rcases un2_cases e with e | ⟨_, e⟩
    · rcases inF b u e with q | q
      · exact ok.ga b u (ok.fg b u q) z
      · exact S.dom ok.jr z q
    · exact ok.ga b u e z
  · exact S.frame ok.jr (p.sub.trans sF) fun b hb => by
      cases z : H b with
      | none => exact (S.dom ok.jr hb z).elim
      | some u => exact keep b u z
  · rcases un2_cases e with e | ⟨_, e⟩
    · rcases inF b u e with q | q
      · exact ok.g0 b u (ok.fg b u q)
      · exact .inr (ok.h1 b q)
    · exact ok.g0 b u e
  · exact jr.flat (S' := S) rfl rfl rfl rfl rfl sF fun b hb u e => (over_in hb).trans e
theorem ExR.cv {S : Js J} {S' : Js J'} {F : Hp} {e : Ex} {cls : Value} {dx : Option Addr} (hK : S.K = S'.K) (hR : S.R = S'.R) (hc : S.cl = S'.cl) (h1 : S.xc = S'.xc) (h2 : S.xf = S'.xf) (h : ExR S F e cls dx) : ExR S' F e cls dx := by
  obtain ⟨a, b⟩ := h
  refine ⟨by rw [← h1]; exact a, ?_⟩
  split at b
  · exact b
  · obtain ⟨a, v, h3, h4, h5⟩ := b
    exact ⟨a, v, h3, by rw [← h2]; exact h4, h5.cv hK hR hc h1 h2⟩
theorem tMak_rd {φ : Fv Ob} (hφ : ∀ ds j P E, φ ds j P E → ds.length = n) {R : St} {H : Hp} {Q : VK} (h : rdE S B M W .clean (eMak c φ fr) R H Q) : tMakG (S.cl c) (spF (jsO S) n φ) (WE W) (rdA S B M W true fr) R H Q := by
  obtain ⟨g, m, j, P, E, ok, hf, q, xo⟩ := h
  refine ⟨g, m, j, _, E, ok, hf, fun xs j1 g1 vs H1 p1 l1 ok1 w1 x dx hx hdx hne => ?_, xo⟩
  have hin : ∀ b u, H1 b = some u → upd (upd H1 dx (.own x)) x (.ins (S.cl c) dx []) b = some u ∧ ¬ (b = x ∨ b = dx) := fun b u e => by
    have n1 : b ≠ x := fun z => by rw [z, hx] at e; cases e
    have n2 : b ≠ dx := fun z => by rw [z, hdx] at e; cases e
    exact ⟨by rw [upd_ne n1, upd_ne n2]; exact e, fun z => z.elim n1 n2⟩
  have fh := ok1.b.fg.trans ok1.b.gh
  have p1 := p1 x
  refine ⟨g1.F, fun b => b = x ∨ b = dx, ⟨x, c, []⟩, .obj x :: xs, _, _, fun b u e => (hin b u (fh b u e)).1, fun b u e => (hin b u (fh b u e)).2, ?_, let ⟨a, b, e⟩ := ok1.b.sm; ⟨a, b, (hin _ _ e).1⟩, .cons (.obj _) (RpL.cv (S := S) (S' := jsO S) rfl rfl rfl rfl rfl w1), hφ _ _ _ _ p1, p1, fun d o F' A' H' v pd pp rv => ?_, fun e o F' A' H' cls dx pe pp rv => ?_⟩
  · refine ⟨⟨dx, [], upd_same, by rw [upd_ne hne, upd_same], .inr rfl, .nil⟩, .inl rfl, List.nodup_nil, fun b hb => ?_⟩
    rcases hb with rfl | rfl
    · rw [upd_same]; intro z; cases z
    · rw [upd_ne hne, upd_same]; intro z; cases z
  · obtain ⟨rfl, ha, hc, pd⟩ := pd
    obtain ⟨g2, l2, ok2, _, r2⟩ := post_make ok1.b hx hdx pp
    refine ⟨non_of rv, ?_⟩
    rw [ha] at r2
    exact q _ j1 g2 _ H' pd (l1.trans l2) ⟨ok2, ok1.s.le l2⟩ r2
  · obtain ⟨g2, l2, ok2, s2, _⟩ := post_make ok1.b hx hdx pp
    exact xo e m j1 g2 R H' cls dx pe (l1.trans l2).f ⟨ok2, ok1.s.le l2⟩ ((ExR.cv (S := jsO S) (S' := S) rfl rfl rfl rfl rfl rv).mono s2)
end
/-- a class that may be made -/
structure Mkr (S : Js J) (P : Program) (w : World) (mg : Str → Option Value) (base : Heap) (k : Nat) (c : Nat) (x : Str) (n : Nat) (φ : Fv Ob) : Prop where
  ex : ∃ f fd ps, Mk S.K (S.cl c) f ∧ FnG P w S.K mg base (L2.CX P w) k f fd ps (spF (jsO S) n φ) ∧ Binds S.K fd ps [] ∧ mg x = some (.ref (S.cl c))
  ln : ∀ ds j P E, φ ds j P E → ds.length = n
section
variable {S : Js J} {B : Bs} {M : Nat → Bool} {W : WX} {X : Cx} {e o : Expr} {es : List Expr} {pos p apos : Pos} {fo : Ev J} {fr : Av J} {φ : Fv J} {k n c : Nat} {nm f x : Str} {attrs : List Str} {pl : Sem Bool}
theorem atC (hK : X.K = S.K) (T : ClsT S c attrs) (hf : f ∈ attrs) (he : PE X e (rdE S B M W .clean fo)) (hb : attributeBase e f X.env (eval e X.env) = eval e X.env := by rfl) : PE X (.Attribute e f pos) (rdE S B M W .clean (eAt c f fo)) := e_at (ci := true) hK T hf he hb
theorem mthC (hK : X.K = S.K) (tk : Takes X W) (T : ClsT S c attrs) (C : Mth S X.prog X.w X.mg X.base k c nm n φ) (hr : Room k X.A) (hgd : X.A.guards = some []) (ho : PE X o (rdE S B M W .clean fo)) (ha : PA X (e :: es) (rdA S B M W true fr))
    (hst : starEach (e :: es) X.env = (false, eval e X.env) :: starEach es X.env := by rfl) (hpl : (backTo pos (starEach es X.env)).any (·.1) = false := by rfl)
    (ht : eval (.Call (.Attribute o nm apos) (e :: es) [] pos) X.env = (do
      let ov ← eval o X.env
      standAt apos.atName
      let (f, first) ← holding [ov] (getMethod ov nm pl)
      callWith pos f first (backTo pos (starEach (e :: es) X.env)) (backToKw pos (keywordEach [] X.env))) := by rfl) : PE X (.Call (.Attribute o nm apos) (e :: es) [] pos) (rdE S B M W .clean (eMt1 c nm φ fo fr)) := by
  obtain ⟨f, fd, ps, h1, h2, h3⟩ := C.ex
  exact PE.imp (pe_mthG ho (hK ▸ T.cls) (hK ▸ h1) (hK ▸ h2) hr hgd (hK ▸ h3) (passAt tk) ha hst hpl ht) fun _ _ _ h => tMth_rd C.ln h
theorem mthC0 (hK : X.K = S.K) (tk : Takes X W) (T : ClsT S c attrs) (C : Mth S X.prog X.w X.mg X.base k c nm n φ) (hr : Room k X.A) (hgd : X.A.guards = some []) (ho : PE X o (rdE S B M W .clean fo))
    (ht : eval (.Call (.Attribute o nm apos) [] [] pos) X.env = (do
      let ov ← eval o X.env
      standAt apos.atName
      let (f, first) ← holding [ov] (getMethod ov nm pl)
      callWith pos f first (backTo pos (starEach [] X.env)) (backToKw pos (keywordEach [] X.env))) := by rfl) : PE X (.Call (.Attribute o nm apos) [] [] pos) (rdE S B M W .clean (eMt1 c nm φ fo aNil)) := by
  obtain ⟨f, fd, ps, h1, h2, h3⟩ := C.ex
  refine PE.imp (pe_mthG0 ho (hK ▸ T.cls) (hK ▸ h1) (hK ▸ h2) hr hgd (hK ▸ h3) (passAt tk) ht) fun R H Q h => ?_
  obtain ⟨g, m, j, P, E, ok, hf, q, xo⟩ := tMth_rd C.ln h
  refine ⟨g, m, j, P, E, ok, hf, fun x j0 g0 v0 H0 p0 l0 ok0 w0 => ?_, xo⟩
  obtain ⟨a, dx, fs, h1, h2, h3, g', m', j', P', E', ok', hf', q', xo'⟩ := q x j0 g0 v0 H0 p0 l0 ok0 w0
  exact ⟨a, dx, fs, h1, h2, h3, q' _ _ g' [] H0 hf' (Le.refl g') ok' .nil⟩
theorem makC {φ : Fv Ob} (hK : X.K = S.K) (tk : Takes X W) (C : Mkr S X.prog X.w X.mg X.base k c x n φ) (hr : Room (k + 1) X.A) (hgd : X.A.guards = some []) (ha : PA X (e :: es) (rdA S B M W true fr)) (hg : Gl X x := by rfl) (hdb : (x == ("__debug__" : Str)) = false := by decide)
    (he : starEach (e :: es) X.env = (false, eval e X.env) :: starEach es X.env := by rfl) (hpl : (backTo pos (starEach es X.env)).any (·.1) = false := by rfl) : PE X (.Call (.Name x p) (e :: es) [] pos) (rdE S B M W .clean (eMak c φ fr)) := by
  obtain ⟨f, fd, ps, h1, h2, h3, h4⟩ := C.ex
  exact PE.imp (pe_makG (hK ▸ h1) (hK ▸ h2) hr hgd hg h4 (hK ▸ h3) (passAt tk) ha hdb he hpl) fun _ _ _ h => tMak_rd C.ln h
end
end Mp

/-! O4: statements that change the object that is made. -/
namespace Mp
open PySem PySem.Spec L2
open PyProof.Rows hiding St
variable {J J' : Type}
section
variable {S : Js J} {B : Bs} {F H : Hp} {A A' : Addr → Prop} {g : Gh} {o o' : Ob} {fs : List (Str × Fld)} {kvs : List (Str × V)} {k f : Str}
theorem FldsR.area (s : ∀ b, A b → A' b) : ∀ {fs : List (Str × Fld)} {kvs : List (Str × V)}, FldsR S F H A fs kvs → FldsR S F H A' fs kvs
  | _, _, .nil => .nil
  | _, _, .cons (.val r) t => .cons (.val r) (t.area s)
  | _, _, .cons (.own e r a) t => .cons (.own e r (s _ a)) (t.area s)
theorem OkB.wrO {a : Addr} {u u' : HO} (k : OkB (jsO S) B g H o) (hA : g.A a) (ha : H a = some u') (nf : ∀ x y, u' ≠ .frz x y) (jr : ObR S o' g.F g.A (upd H a u)) : OkB (jsO S) B g (upd H a u) o' := by
  refine ⟨k.fg, fun b x e => ?_, k.ga, jr, k.f0, k.g0, k.a0, fun b x e n => ?_, fun b e => ?_, ?_⟩
  · rw [upd_ne (show b ≠ a from fun z => k.ga b x e (by rw [z]; exact hA))]; exact k.gh b x e
  · refine (upd_ne fun z => ?_).trans (k.h0 b x e n)
    rcases k.a0 a hA with q | q
    · exact n (z ▸ q)
    · rw [z, q] at e; cases e
  · by_cases hb : b = a
    · subst hb; rw [upd_same] at e; cases e
    · rw [upd_ne hb] at e; exact k.h1 b e
  · obtain ⟨x, y, e⟩ := k.sm
    exact ⟨x, y, by rw [upd_ne fun z => nf x y (by rw [z, ha] at e; exact Option.some.inj e)]; exact e⟩
theorem ObR.notOwn (h : ObR S o F A H) {C dx : Addr} {kvs : List (Str × V)} (e : H o.ad = some (.ins C dx kvs)) : o.ad ∉ ownsF o.fs := fun z => by
  obtain ⟨_, _, _, _, _, e4⟩ := h.ex
  obtain ⟨_, vs, q⟩ := e4.ownA _ z
  rw [e] at q; cases q
theorem ObR.putV {d : D} {v : V} (h : ObR S o F A H) (r : Rp S F d v) : ∃ dx kvs, H o.ad = some (.ins (S.cl o.c) dx kvs) ∧ kvs.length = o.fs.length ∧ ObR S (o.put f (.val d)) F A (upd H o.ad (.ins (S.cl o.c) dx (putF f v kvs))) := by
  obtain ⟨dx, kvs, e1, e2, e3, e4⟩ := h.ex
  have ne : dx ≠ o.ad := fun z => by rw [z, e1] at e2; cases e2
  refine ⟨dx, kvs, e1, e4.len.symm, ⟨dx, _, upd_same, (upd_ne ne).trans e2, e3, (e4.upd_ne (h.notOwn e1)).put (.val r)⟩, h.at_, (owns_putV h.nd).1, fun b hb => ?_⟩
  by_cases c : b = o.ad
  · rw [c, upd_same]; intro z; cases z
  · rw [upd_ne c]; exact h.dm b hb
theorem ObR.putO {xs : List D} {vs : List V} {b : Addr} (h : ObR S o F A H) (nb : ¬ A b) (e : H b = some (.lst vs)) (r : RpL S F xs vs) : ∃ dx kvs, H o.ad = some (.ins (S.cl o.c) dx kvs) ∧ kvs.length = o.fs.length ∧
    ObR S (o.put f (.own b xs)) F (fun a => A a ∨ a = b) (upd H o.ad (.ins (S.cl o.c) dx (putF f (.ref b) kvs))) := by
  obtain ⟨dx, kvs, e1, e2, e3, e4⟩ := h.ex
  have ne : dx ≠ o.ad := fun z => by rw [z, e1] at e2; cases e2
  have nb0 : b ∉ ownsF o.fs := fun z => nb (e4.ownA b z).1
  have nb1 : b ≠ o.ad := fun z => nb (z ▸ h.at_)
  refine ⟨dx, kvs, e1, e4.len.symm, ⟨dx, _, upd_same, (upd_ne ne).trans e2, .inl e3, ((e4.upd_ne (h.notOwn e1)).area fun _ => .inl).put (.own (by rw [upd_ne nb1]; exact e) r (.inr rfl))⟩, .inl h.at_, (owns_putO h.nd nb0).1, fun a ha => ?_⟩
  by_cases c : a = o.ad
  · rw [c, upd_same]; intro z; cases z
  · rw [upd_ne c]
    rcases ha with ha | ha
    · exact h.dm a ha
    · rw [ha, e]; intro z; cases z
theorem ObR.own {b : Addr} {xs : List D} (h : ObR S o F A H) (e : getF k o.fs = some (.own b xs)) : ∃ dx kvs vs, H o.ad = some (.ins (S.cl o.c) dx kvs) ∧ kvs.lookup k = some (.ref b) ∧ H b = some (.lst vs) ∧ RpL S F xs vs ∧ A b := by
  obtain ⟨dx, kvs, e1, e2, e3, e4⟩ := h.ex
  obtain ⟨v, h1, h2⟩ := e4.get e
  cases h2 with
  | own a r c => exact ⟨dx, kvs, _, e1, h1, a, r, c⟩
theorem ObR.setL {b : Addr} {xs ys : List D} {ws : List V} (h : ObR S o F A H) (e : getF k o.fs = some (.own b xs)) (r : RpL S F ys ws) : ObR S (o.setL k ys) F A (upd H b (.lst ws)) := by
  obtain ⟨dx, kvs, e1, e2, e3, e4⟩ := h.ex
  obtain ⟨a, vs, q⟩ := e4.ownA b (owns_mem e)
  have n1 : o.ad ≠ b := fun z => by rw [← z, e1] at q; cases q
  have n2 : dx ≠ b := fun z => by rw [← z, e2] at q; cases q
  refine ⟨⟨dx, kvs, by rw [upd_ne (show (o.setL k ys).ad ≠ b from n1)]; exact e1, by rw [upd_ne n2]; exact e2, e3, e4.setL r a e h.nd⟩, h.at_, by show (ownsF (Mp.setL k ys o.fs)).Nodup; rw [owns_setL]; exact h.nd, fun c hc => ?_⟩
  by_cases z : c = b
  · rw [z, upd_same]; intro z; cases z
  · rw [upd_ne z]; exact h.dm c hc
end
/-! ### the combinators -/
def sOSet (c : Nat) (f : Str) (fe : Ev Ob) (m : Sd) (o : Ob) (P : Fl → Sd → Ob → Prop) (E : XP Ob) : Prop := fe m o (fun d o1 => m[0]? = some (some (.obj o1.ad)) ∧ o1.c = c ∧ o1.fs.length < 100 ∧ P .next m (o1.put f (.val d))) E
def sOSetO (c : Nat) (f : Str) (fe : Ev Ob) (m : Sd) (o : Ob) (P : Fl → Sd → Ob → Prop) (E : XP Ob) : Prop := fe m o (fun d o1 => m[0]? = some (some (.obj o1.ad)) ∧ o1.c = c ∧ o1.fs.length < 100 ∧ ∃ xs, d = .lst xs ∧ ∀ b, P .next m (o1.put f (.own b xs))) E
def sOAug (φ : D → D → Option D) (c : Nat) (f : Str) (fe : Ev Ob) (m : Sd) (o : Ob) (P : Fl → Sd → Ob → Prop) (E : XP Ob) : Prop := m[0]? = some (some (.obj o.ad)) ∧ o.c = c ∧ ∃ x, getF f o.fs = some (.val x) ∧
  fe m o (fun y o1 => o1.ad = o.ad ∧ o1.c = c ∧ o1.fs.length < 100 ∧ ∃ z, φ x y = some z ∧ P .next m (o1.put f (.val z))) E
def sOApp (c : Nat) (f : Str) (fe : Ev Ob) (m : Sd) (o : Ob) (P : Fl → Sd → Ob → Prop) (E : XP Ob) : Prop := m[0]? = some (some (.obj o.ad)) ∧ o.c = c ∧ ∃ b xs0, getF f o.fs = some (.own b xs0) ∧
  fe m o (fun d o1 => ∃ xs, getF f o1.fs = some (.own b xs) ∧ xs.length < LINE ∧ P .next m (o1.setL f (xs ++ [d]))) E
def sOPop (c : Nat) (f : Str) (m : Sd) (o : Ob) (P : Fl → Sd → Ob → Prop) (E : XP Ob) : Prop := m[0]? = some (some (.obj o.ad)) ∧ o.c = c ∧ ∃ b xs y, getF f o.fs = some (.own b xs) ∧ xs.getLast? = some y ∧ P .next m (o.setL f xs.dropLast)
def sOIns (c : Nat) (f : Str) (fk : Ev Ob) (m : Sd) (o : Ob) (P : Fl → Sd → Ob → Prop) (E : XP Ob) : Prop := m[0]? = some (some (.obj o.ad)) ∧ o.c = c ∧ ∃ b xs0, getF f o.fs = some (.own b xs0) ∧
  fk m o (fun kd o1 => ∃ (i : Int) (xs : List D) (y : D), kd = .int i ∧ o1.ad = o.ad ∧ o1.c = c ∧ getF f o1.fs = some (.own b xs) ∧ xs.getLast? = some y ∧ 0 ≤ i ∧ i < LIM ∧ xs.length < LINE ∧ P .next m (o1.setL f (xs.dropLast.take i.toNat ++ [y] ++ xs.dropLast.drop i.toNat))) E
def sOSetIx (c : Nat) (f : Str) (fk fe : Ev Ob) (m : Sd) (o : Ob) (P : Fl → Sd → Ob → Prop) (E : XP Ob) : Prop := fe m o (fun d o1 => m[0]? = some (some (.obj o1.ad)) ∧ o1.c = c ∧ ∃ b xs0, getF f o1.fs = some (.own b xs0) ∧
  fk m o1 (fun kd o2 => ∃ xs i n, getF f o2.fs = some (.own b xs) ∧ kd = .int i ∧ ixN xs.length i = some n ∧ P .next m (o2.setL f (xs.set n d))) E) E
def sOAugIx (φ : D → D → Option D) (c : Nat) (f : Str) (fk fe : Ev Ob) (m : Sd) (o : Ob) (P : Fl → Sd → Ob → Prop) (E : XP Ob) : Prop := m[0]? = some (some (.obj o.ad)) ∧ o.c = c ∧ ∃ b xs0, getF f o.fs = some (.own b xs0) ∧
  fk m o (fun kd o1 => ∃ xs i x, getF f o1.fs = some (.own b xs) ∧ kd = .int i ∧ atI xs i = some x ∧ fe m o1 (fun y o2 => ∃ xs2 n z, getF f o2.fs = some (.own b xs2) ∧ φ x y = some z ∧ ixN xs2.length i = some n ∧ P .next m (o2.setL f (xs2.set n z))) E) E
section
variable {c : Nat} {f : Str} {fk fe : Ev Ob} {φ : D → D → Option D}
instance [h : MoE fe] : MoS (sOSet c f fe) := ⟨fun h1 q x => h.mo h1 (fun _ _ ⟨a, b, d, p⟩ => ⟨a, b, d, q _ _ _ p⟩) x⟩
instance [h : MoE fe] : MoS (sOSetO c f fe) := ⟨fun h1 q x => h.mo h1 (fun _ _ ⟨a, b, d, xs, e, p⟩ => ⟨a, b, d, xs, e, fun b => q _ _ _ (p b)⟩) x⟩
instance [h : MoE fe] : MoS (sOAug φ c f fe) := ⟨fun ⟨a, b, y, e, h1⟩ q x => ⟨a, b, y, e, h.mo h1 (fun _ _ ⟨a, b, d, z, e, p⟩ => ⟨a, b, d, z, e, q _ _ _ p⟩) x⟩⟩
instance [h : MoE fe] : MoS (sOApp c f fe) := ⟨fun ⟨a, b, y, xs, e, h1⟩ q x => ⟨a, b, y, xs, e, h.mo h1 (fun _ _ ⟨a, b, d, p⟩ => ⟨a, b, d, q _ _ _ p⟩) x⟩⟩
instance : MoS (sOPop c f) := ⟨fun ⟨a, b, y, xs, e, h1, h2, p⟩ q x => ⟨a, b, y, xs, e, h1, h2, q _ _ _ p⟩⟩
instance [h : MoE fk] : MoS (sOIns c f fk) := ⟨fun ⟨a, b, y, xs, e, h1⟩ q x => ⟨a, b, y, xs, e, h.mo h1 (fun _ _ ⟨i, xs, y, e1, e2, e3, e4, e5, e6, e7, e8, p⟩ => ⟨i, xs, y, e1, e2, e3, e4, e5, e6, e7, e8, q _ _ _ p⟩) x⟩⟩
instance [h : MoE fk] [h' : MoE fe] : MoS (sOSetIx c f fk fe) := ⟨fun h1 q x => h'.mo h1 (fun _ _ ⟨a, b, y, xs, e, h2⟩ => ⟨a, b, y, xs, e, h.mo h2 (fun _ _ ⟨xs, i, n, e1, e2, e3, p⟩ => ⟨xs, i, n, e1, e2, e3, q _ _ _ p⟩) x⟩) x⟩
instance [h : MoE fk] [h' : MoE fe] : MoS (sOAugIx φ c f fk fe) := ⟨fun ⟨a, b, y, xs, e, h1⟩ q x => ⟨a, b, y, xs, e, h.mo h1 (fun _ _ ⟨xs, i, z, e1, e2, e3, h2⟩ => ⟨xs, i, z, e1, e2, e3, h'.mo h2 (fun _ _ ⟨xs, n, z, e1, e2, e3, p⟩ => ⟨xs, n, z, e1, e2, e3, q _ _ _ p⟩) x⟩) x⟩⟩
end
section
variable {S : Js J} {B : Bs} {M : Nat → Bool} {W : WX} {X : Cx} {e ek : Expr} {pos p np p2 ap ap2 np2 p3 fp fp2 : Pos} {fe fk : Ev Ob} {c : Nat} {f x : Str} {attrs : List Str} {φ : D → D → Option D} {g : Gh} {r : St} {H : Hp} {m : Sd} {o : Ob}
theorem Ok.self (ok : Ok (jsO S) B g M r H m o) (hM : M 0 = false) (h : m[0]? = some (some (.obj o.ad))) : r[0]? = some (some (.ref o.ad)) := by
  obtain ⟨v, h1, h2⟩ := ok.s.fr 0 _ h hM
  cases h2
  exact h1
theorem s_oset (hK : X.K = S.K) (hM : M 0 = false) (T : ClsT S c attrs) (hf : f ∈ attrs) (hx : MtN X 0 x) (he : PE X e (rdE (jsO S) B M W .clean fe)) (hs : swapsWith e (some (.Attribute (.Name x np) f p)) pos.line X.env = pure false) :
    PS X (.Assign [.Attribute (.Name x np) f p] e pos) (rdS (jsO S) B M W (sOSet c f fe)) :=
  PS.imp (ps_fld hx.pe he hs) fun En r H ⟨g, m, o, P, E, ok, h, q, xo⟩ => by
    refine ⟨g, m, o, _, E, ok, h, fun d o1 g1 v H1 hh l1 ok1 w => ?_, xo⟩
    obtain ⟨h0, hc, hl, p⟩ := hh
    have jr : ObR S o1 g1.F g1.A H1 := ok1.b.jr
    obtain ⟨dx, kvs, e1, e2, jr2⟩ := jr.putV (f := f) (Rp.cv (S := jsO S) (S' := S) rfl rfl rfl rfl rfl w)
    refine ⟨_, ok1.self hM h0, o1.ad, _, dx, kvs, rfl, e1, hK ▸ hc ▸ T.cls, hK ▸ hc ▸ T.no f hf, by rw [e2]; omega, ?_⟩
    exact q _ _ _ p g1 r _ l1.f ⟨ok1.b.wrO jr.at_ e1 (by intro x y z; cases z) jr2, ok1.s⟩
end
end Mp

/-! O5: the statements on objects, written short; dicts with int and text keys. -/
namespace Mp
open PySem PySem.Spec L2
open PyProof.Rows hiding St
variable {J J' : Type}
section
variable {S : Js J} {B : Bs} {M : Nat → Bool} {W : WX} {X : Cx} {e ek : Expr} {pos p np p2 ap ap2 np2 p3 fp fp2 : Pos} {fe fk : Ev Ob} {c : Nat} {f x : Str} {attrs : List Str}
theorem zOSet (hK : X.K = S.K) (T : ClsT S c attrs) (hf : f ∈ attrs) (he : PE X e (rdE (jsO S) B M W .clean fe)) (hx : MtN X 0 x := by exact mtN _) (hM : M 0 = false := by rfl) (hs : swapsWith e (some (.Attribute (.Name x np) f p)) pos.line X.env = pure false := by rfl) :
    PS X (.Assign [.Attribute (.Name x np) f p] e pos) (rdS (jsO S) B M W (sOSet c f fe)) := s_oset hK hM T hf hx he hs
theorem subI_cases : ∀ d e z, subI d e = some z → ∃ a b, d = .int a ∧ e = .int b ∧ z = .int (a - b) := fun d e z h => by
  unfold subI at h; split at h
  · cases h; exact ⟨_, _, rfl, rfl, rfl⟩
  · cases h
end
section
variable {S : Js J} {B : Bs} {M : Nat → Bool} {W : WX} {X : Cx} {e ek a b : Expr} {pos p np : Pos} {fe fk fa fb : Ev J} {x : Str} {i : Nat} {ci : Bool}
theorem zSub (i : Nat) (hN : X.N.Nodup) (he : PE X e (rdE S B M W .mix fe)) (hM : M i = false := by rfl) (hi : X.N[i]? = some x := by rfl) (hx : Loc X.env.scope x := by first | exact Or.inl rfl | exact Or.inr rfl) (hf : X.fn x = true ∨ X.env.scope.names.lookup x = some .local := by first | exact .inl rfl | exact .inr rfl) :
    PS X (.AugAssign (.Name x p) .Sub e pos) (rdS S B M W (sAug subI i fe)) := s_aug (h := fun a b => a - b) subI_cases ip_sub hM hN hi hx he hf
/-! ### dicts -/
def keyD : D → Option Key
  | .int i => some (.inl i)
  | .str x => some (.inr x)
  | _ => none
def valD {κ : Type} [DecidableEq κ] (kds : List (κ × D)) (k : κ) : Option D := (kds.find? fun kv => decide (kv.1 = k)).map (·.2)
def putD {κ : Type} [DecidableEq κ] (kds : List (κ × D)) (k : κ) (d : D) : List (κ × D) :=
  if (kds.any fun kv => decide (kv.1 = k)) = true then kds.map (fun kv => if kv.1 = k then (kv.1, d) else kv) else kds ++ [(k, d)]
def dgetD : D → D → Option D
  | .dct kds, k => (keyD k).bind (valD kds)
  | _, _ => none
def dinD : D → D → Option D
  | k, .dct kds => (keyD k).map fun k => .bl (valD kds k).isSome
  | _, _ => none
def dninD : D → D → Option D
  | k, .dct kds => (keyD k).map fun k => .bl (!(valD kds k).isSome)
  | _, _ => none
def rDG : R2 := fun x y H Q => ∃ a v, x = .ref a ∧ DGet H a y (some v) ∧ Q v H
def rDI : R2 := fun y x H Q => ∃ a o, x = .ref a ∧ DGet H a y o ∧ Q (.bl o.isSome) H
def rDNI : R2 := fun y x H Q => ∃ a o, x = .ref a ∧ DGet H a y o ∧ Q (.bl (!o.isSome)) H
/-- d[k] = e, d an owned dict -/
def sSetK (i : Nat) (fk fe : Ev J) (m : Sd) (j : J) (P : Fl → Sd → J → Prop) (E : XP J) : Prop := ∃ kds, m[i]? = some (some (.dct kds)) ∧
  fe m j (fun d j1 => fk m j1 (fun kd j2 => ∃ k, keyD kd = some k ∧ kds.length < LINE ∧ P .next (m.set i (some (.dct (putD kds k d)))) j2) E) E
instance [h1 : MoE fk] [h2 : MoE fe] : MoS (sSetK i fk fe) := ⟨fun ⟨k, e, h⟩ q x => ⟨k, e, h2.mo h (fun _ _ h => h1.mo h (fun _ _ ⟨k, a, b, p⟩ => ⟨k, a, b, q _ _ _ p⟩) x) x⟩⟩
end
/-! ### y = [..], the object lent -/
section
variable {S : Js J} {B : Bs} {M : Nat → Bool} {W : WX} {X : Cx} {elt tg iter : Expr} {ifs : List Expr} {pos py spos : Pos} {y : Str} {scope : Scope} {fi : Iv Unit} {γ : Gv} {ft : Tv Unit} {fe : Ev Unit} {ks : List Nat} {cc w : Bool}
end
/-! ### the facts of a method, of an __init__ -/
def clsBody (s : Stmt) : List Stmt := match s with | .ClassDef _ _ _ b _ _ _ _ _ _ _ => b | _ => []
structure MF (K : PySem.W.Frag) (cl : Nat → Addr) (c : Nat) (nm qual : Str) (st : Stmt) (ps : List Str) : Prop where
  ex : ∃ f fd, L2.Fun K nm qual st f fd ∧ Meth K (cl c) nm f ∧ Binds K fd ps []
structure MI (K : PySem.W.Frag) (cl : Nat → Addr) (c : Nat) (nm qual : Str) (st : Stmt) (ps : List Str) : Prop where
  ex : ∃ f fd, L2.Fun K nm qual st f fd ∧ Mk K (cl c) f ∧ Binds K fd ps []
theorem ClsT.o {S : Js J} {c : Nat} {attrs : List Str} (T : ClsT S c attrs) : ClsT (jsO S) c attrs := ⟨T.cls, T.no⟩
theorem ClsT.z {S : Js J} {c : Nat} {attrs : List Str} (T : ClsT S c attrs) : ClsT (js0 S) c attrs := ⟨T.cls, T.no⟩
/-! ### texts that are written: equal or not -/
theorem ofString_inj {a b : String} : (Str.ofString a = Str.ofString b) ↔ a = b := by
  refine ⟨fun h => ?_, fun h => by rw [h]⟩
  rw [Str.ofString_eq_toList, Str.ofString_eq_toList] at h
  have h1 : a.toList.map Char.toNat = b.toList.map Char.toNat := by
    have := congrArg Str.cps h
    simpa using this
  have h2 : a.toList = b.toList := by
    have inj : ∀ {l l' : List Char}, l.map Char.toNat = l'.map Char.toNat → l = l' := fun {l} => by
      induction l with
      | nil => intro l' h; cases l' with
        | nil => rfl
        | cons => simp at h
      | cons c r ih =>
        intro l' h
        cases l' with
        | nil => simp at h
        | cons c' r' =>
          simp only [List.map_cons, List.cons.injEq] at h
          rw [ih h.2, Char.ext (UInt32.toNat_inj.mp h.1)]
    exact inj h1
  exact String.toList_inj.mp h2
end Mp

/-! O6: closures over objects, step by step. -/
namespace Mp
open PySem L2
variable {J : Type}
/-- an attribute of a frozen instance -/
def atP (c : Nat) (f : Str) (x : D) (P : D → J → Prop) (j : J) : Prop := ∃ kds d, x = .ins c kds ∧ getK f kds = some d ∧ P d j
/-- a method's name is no attribute -/
def noP (c : Nat) (f : Str) (x : D) : Prop := ∃ kds, x = .ins c kds ∧ getK f kds = none
section
variable {f fa fb fe fk fo : Ev J} {fr : Av J} {m : Sd} {j : J} {P : D → J → Prop} {PS : Fl → Sd → J → Prop} {E : XP J} {c i : Nat} {nm : Str}
@[simp ↓] theorem a_at : eAt c nm fo m j P E = fo m j (fun x j1 => atP c nm x P j1) E := rfl
theorem mt1_eq {φ : Fv J} : eMt1 c nm φ fo fr m j P E = fo m j (fun x j1 => noP c nm x ∧ fr m j1 (fun xs j2 => φ (x :: xs) j2 P (fun e j' => E e m j')) E) E := by
  unfold eMt1 noP
  congr 1
  funext x j1
  exact propext ⟨fun ⟨k, a, b, p⟩ => ⟨⟨k, a, b⟩, p⟩, fun ⟨⟨k, a, b⟩, p⟩ => ⟨k, a, b, p⟩⟩
@[simp ↓] theorem a_mt1 {φ : Fv J} : eMt1 c nm φ fo fr m j P E = fo m j (fun x j1 => noP c nm x ∧ fr m j1 (fun xs j2 => WF φ (x :: xs) j2 P (fun e j' => E e m j')) E) E := mt1_eq
/-- a making: what follows is not looked at -/
def WM (c : Nat) (φ : Fv Ob) (xs : List D) (P : D → Prop) (E : Ex → Prop) (_t : Tg P E := .mk) : Prop := ∀ a, φ (.obj a :: xs) ⟨a, c, []⟩ (fun d o => d = .non ∧ o.ad = a ∧ o.c = c ∧ P o.flat) (fun e _ => E e)
@[simp ↓] theorem a_mak {φ : Fv Ob} : eMak c φ fr m j P E = fr m j (fun xs j1 => WM c φ xs (fun d => P d j1) (fun e => E e m j1)) E := rfl
@[simp ↓] theorem a_setK : sSetK i fk fe m j PS E = ∃ kds, m[i]? = some (some (.dct kds)) ∧ fe m j (fun d j1 => fk m j1 (fun kd j2 => ∃ k, keyD kd = some k ∧ kds.length < LINE ∧ PS .next (m.set i (some (.dct (putD kds k d)))) j2) E) E := rfl
end
section
variable {f fe fk fo : Ev Ob} {fr : Av Ob} {m : Sd} {o : Ob} {P : D → Ob → Prop} {PT : Bool → Ob → Prop} {PS : Fl → Sd → Ob → Prop} {E : XP Ob} {c : Nat} {nm : Str} {φ : D → D → Option D} {g : Ev Unit} {gt : Tv Unit}
@[simp ↓] theorem a_lend : eLend g m o P E = (m[0]? = some (some (.obj o.ad)) ∧ g (m.set 0 (some o.flat)) () (fun d _ => tupD d = true ∧ P d o) xNo) := rfl
@[simp ↓] theorem a_lendF : eLendF g m o P E = (m[0]? = some (some (.obj o.ad)) ∧ g (m.set 0 (some o.flat)) () (fun d _ => freshB d = true ∧ P d o) xNo) := rfl
@[simp ↓] theorem a_tlend : tLend gt m o PT E = (m[0]? = some (some (.obj o.ad)) ∧ gt (m.set 0 (some o.flat)) () (fun d _ => PT d o) xNo) := rfl
@[simp ↓] theorem a_mtO {φ : Fv Ob} : eMtO c nm φ fo fr m o P E = fo m o (fun x o1 => x = .obj o1.ad ∧ o1.c = c ∧ getF nm o1.fs = none ∧ fr m o1 (fun xs o2 => WF φ (x :: xs) o2 P (fun e j' => E e m j')) E) E := rfl
@[simp ↓] theorem a_oset : sOSet c nm fe m o PS E = fe m o (fun d o1 => m[0]? = some (some (.obj o1.ad)) ∧ o1.c = c ∧ o1.fs.length < 100 ∧ PS .next m (o1.put nm (.val d))) E := rfl
@[simp ↓] theorem a_osetO : sOSetO c nm fe m o PS E = fe m o (fun d o1 => m[0]? = some (some (.obj o1.ad)) ∧ o1.c = c ∧ o1.fs.length < 100 ∧ ∃ xs, d = .lst xs ∧ ∀ b, PS .next m (o1.put nm (.own b xs))) E := rfl
@[simp ↓] theorem a_oaug : sOAug φ c nm fe m o PS E = (m[0]? = some (some (.obj o.ad)) ∧ o.c = c ∧ ∃ x, getF nm o.fs = some (.val x) ∧ fe m o (fun y o1 => o1.ad = o.ad ∧ o1.c = c ∧ o1.fs.length < 100 ∧ ∃ z, φ x y = some z ∧ PS .next m (o1.put nm (.val z))) E) := rfl
@[simp ↓] theorem a_oapp : sOApp c nm fe m o PS E = (m[0]? = some (some (.obj o.ad)) ∧ o.c = c ∧ ∃ b xs0, getF nm o.fs = some (.own b xs0) ∧ fe m o (fun d o1 => ∃ xs, getF nm o1.fs = some (.own b xs) ∧ xs.length < LINE ∧ PS .next m (o1.setL nm (xs ++ [d]))) E) := rfl
@[simp ↓] theorem a_opop : sOPop c nm m o PS E = (m[0]? = some (some (.obj o.ad)) ∧ o.c = c ∧ ∃ b xs y, getF nm o.fs = some (.own b xs) ∧ xs.getLast? = some y ∧ PS .next m (o.setL nm xs.dropLast)) := rfl
@[simp ↓] theorem a_oins : sOIns c nm fk m o PS E = (m[0]? = some (some (.obj o.ad)) ∧ o.c = c ∧ ∃ b xs0, getF nm o.fs = some (.own b xs0) ∧ fk m o (fun kd o1 => ∃ (i : Int) (xs : List D) (y : D), kd = .int i ∧ o1.ad = o.ad ∧ o1.c = c ∧ getF nm o1.fs = some (.own b xs) ∧ xs.getLast? = some y ∧ 0 ≤ i ∧ i < LIM ∧ xs.length < LINE ∧ PS .next m (o1.setL nm (xs.dropLast.take i.toNat ++ [y] ++ xs.dropLast.drop i.toNat))) E) := rfl
@[simp ↓] theorem a_osetIx : sOSetIx c nm fk fe m o PS E = fe m o (fun d o1 => m[0]? = some (some (.obj o1.ad)) ∧ o1.c = c ∧ ∃ b xs0, getF nm o1.fs = some (.own b xs0) ∧ fk m o1 (fun kd o2 => ∃ xs i n, getF nm o2.fs = some (.own b xs) ∧ kd = .int i ∧ ixN xs.length i = some n ∧ PS .next m (o2.setL nm (xs.set n d))) E) E := rfl
@[simp ↓] theorem a_oaugIx : sOAugIx φ c nm fk fe m o PS E = (m[0]? = some (some (.obj o.ad)) ∧ o.c = c ∧ ∃ b xs0, getF nm o.fs = some (.own b xs0) ∧ fk m o (fun kd o1 => ∃ xs i x, getF nm o1.fs = some (.own b xs) ∧ kd = .int i ∧ atI xs i = some x ∧ fe m o1 (fun y o2 => ∃ xs2 n z, getF nm o2.fs = some (.own b xs2) ∧ φ x y = some z ∧ ixN xs2.length i = some n ∧ PS .next m (o2.setL nm (xs2.set n z))) E) E) := rfl
end
@[simp] theorem str_lit {a b : String} : (Str.ofString a = Str.ofString b) = (a = b) := propext ofString_inj
end Mp

/-! OD: two names and an attribute of the object under construction at once. -/
namespace Mp
open PySem PySem.Spec L2
open PyProof.Rows hiding St
section
variable {X : Cx} {o : Expr} {f : Str} {pos : Pos} {ta : TE}
def gFld (K : PySem.W.Frag) (ta : TE) (f : Str) : TG := fun v σ H Q => ta σ H fun x H2 => ∃ a C dx fs, x = .ref a ∧ H2 a = some (.ins C dx fs) ∧ Cls K C ∧ NoAttr K C f ∧ fs.length < 1000 ∧ Q σ (upd H2 a (.ins C dx (putF f v fs)))
end
/-- a source with these classes -/
structure Lk (K : PySem.W.Frag) (cl xc : Nat → Addr) (xf : Nat → Str) {J : Type} (S : Js J) : Prop where
  K : S.K = K
  cl : S.cl = cl
  xc : S.xc = xc
  xf : S.xf = xf
def sAsgO (i k : Nat) (c : Nat) (f : Str) (fe : Ev Ob) (m : Sd) (o : Ob) (P : Fl → Sd → Ob → Prop) (E : XP Ob) : Prop := fe m o (fun d o1 => ∃ x y z, d = .tup [x, y, z] ∧ m[0]? = some (some (.obj o1.ad)) ∧ o1.c = c ∧ o1.fs.length < 100 ∧ P .next ((m.set i (some x)).set k (some y)) (o1.put f (.val z))) E
instance {i k c : Nat} {f : Str} {fe : Ev Ob} [h : MoE fe] : MoS (sAsgO i k c f fe) := ⟨fun h1 q x => h.mo h1 (fun _ _ ⟨u, v, w, a, b, d, e, p⟩ => ⟨u, v, w, a, b, d, e, q _ _ _ p⟩) x⟩
section
variable {J : Type} {S : Js J} {B : Bs} {M : Nat → Bool} {W : WX} {X : Cx} {e : Expr} {pos px py pz pt np : Pos} {fe : Ev Ob} {c kt i k : Nat} {f x y z : Str} {attrs : List Str}
end
/-- an attribute of the object under construction that is a value -/
def eAtO (c : Nat) (f : Str) (m : Sd) (o : Ob) (P : D → Ob → Prop) (E : XP Ob) : Prop := m[0]? = some (some (.obj o.ad)) ∧ o.c = c ∧ ∃ d, getF f o.fs = some (.val d) ∧ P d o
instance {c : Nat} {f : Str} : MoE (eAtO c f) := ⟨fun ⟨a, b, d, e, p⟩ q x => ⟨a, b, d, e, q _ _ p⟩⟩
section
variable {J : Type} {S : Js J} {B : Bs} {M : Nat → Bool} {W : WX} {X : Cx} {p np : Pos} {c : Nat} {f x : Str} {attrs : List Str}
end
@[simp ↓] theorem a_atO {c : Nat} {f : Str} {m : Sd} {o : Ob} {P : D → Ob → Prop} {E : XP Ob} : eAtO c f m o P E = (m[0]? = some (some (.obj o.ad)) ∧ o.c = c ∧ ∃ d, getF f o.fs = some (.val d) ∧ P d o) := rfl
@[simp ↓] theorem a_asgO {i k c : Nat} {f : Str} {fe : Ev Ob} {m : Sd} {o : Ob} {PS : Fl → Sd → Ob → Prop} {E : XP Ob} : sAsgO i k c f fe m o PS E = fe m o (fun d o1 => ∃ x y z, d = .tup [x, y, z] ∧ m[0]? = some (some (.obj o1.ad)) ∧ o1.c = c ∧ o1.fs.length < 100 ∧ PS .next ((m.set i (some x)).set k (some y)) (o1.put f (.val z))) E := rfl
end Mp

/-! P1: the random source of the laws k11 to k24 (boot, spin): a list of two ints. -/
namespace Mp
open PySem PySem.Spec L2
open PyProof.Rows hiding St
/-- an int below k, any; the source is not counted -/
def drawN (ds : List D) (n : Nat) (P : D → Nat → Prop) (E : Ex → Nat → Prop) : Prop := ∃ k, ds = [.jar, .int k] ∧ 0 < k ∧ sm k = true ∧ ∀ v, 0 ≤ v → v < k → P (.int v) n
instance : MoF drawN := ⟨fun ⟨k, e, h1, h2, h⟩ q _ => ⟨k, e, h1, h2, fun v a b => q _ _ (h v a b)⟩⟩
def repS (R : Addr) (r k : Int) (A : Addr → Prop) (H : Hp) : Prop := 0 ≤ r ∧ 0 ≤ k ∧ k < 2305843009213693951 ∧ H R = some (.lst [.int r, .int k]) ∧ ∀ b, A b ↔ b = R
def jsS (K : PySem.W.Frag) (cl xc : Nat → Addr) (xf : Nat → Str) (R : Addr) : Js Nat where
  K := K
  R := .ref R
  cl := cl
  xc := xc
  xf := xf
  rep := fun n _ A H => ∃ r k, repS R r k A H
  frame := fun {n F F' A H H'} ⟨r, k, h1, h2, h3, h4, h5⟩ s q => ⟨r, k, h1, h2, h3, by rw [q R ((h5 R).mpr rfl)]; exact h4, h5⟩
  dom := fun {n F A H b} ⟨r, k, h1, h2, h3, h4, h5⟩ a => by rw [(h5 b).mp a, h4]; simp
instance {K : PySem.W.Frag} {cl xc : Nat → Addr} {xf : Nat → Str} {R : Addr} : PureJ (jsS K cl xc xf R) := ⟨fun h => h⟩
def rGtI : R2 := rI0 fun i j => .bl (decide (j < i))
def rGeI : R2 := rI0 fun i j => .bl (decide (j ≤ i))
def rMulI : R2 := rI CMul fun i j => .int (i * j)
def tS0 (K : PySem.W.Frag) : TE := tOp (rIxL K) (tVar 0) (tC (.int 0))
def tS1 (K : PySem.W.Frag) : TE := tOp (rIxL K) (tVar 0) (tC (.int 1))
def tSpin (K : PySem.W.Frag) : TS :=
  tSeq (tIfS (tTest (tOp rGtI (tS0 K) (tC (.int 0))))
    (tSeq (tAsg (tOp rMod (tS0 K) (tVar 1)) (gName 2))
      (tSeq (tAsg (tOp rDivW (tS0 K) (tVar 1)) (gSub (tVar 0) (tC (.int 0)) rSetL))
        (tRet (tVar 2)))) tNext)
  (tSeq (tAsg (tOp rMod (tOp rAddI (tOp rMulW (tS1 K) (tC (.int 6364136223846793005))) (tC (.int 1442695040888963407))) (tC (.int 2305843009213693951))) (gSub (tVar 0) (tC (.int 1)) rSetL))
  (tRet (tOp rMod (tOp rDivW (tS1 K) (tC (.int 1048573))) (tVar 1))))
/-! ### boot -/
def tAbs3 : TE := tCB rAbs1 (tCons (tVar 3) tNil)
def tTenP : TE := tOp rPowI (tC (.int 10)) (tC (.int 18))
def tCutS (K : PySem.W.Frag) : TE := L2.tSl (rSlL K) (tVar 0) tNoPart (tPart (tC (.int 60)))
def tBoot (K : PySem.W.Frag) : TS :=
  tSeq (tPar 1 2 (tCons (tC (.int 0)) (tCons (tOp rAddI (tC (.int 3850)) (tCB (rLen1 K) (tCons (tVar 0) tNil))) tNil)))
  (tSeq (tFor (iList K (tCutS K)) (gName 3)
    (tSeq (tAsg (tIf (tTest (tOp rGeI tAbs3 tTenP)) (tOp rAddI (tOp rMulI (tVar 1) (tC (.int 3))) tAbs3) (tVar 1)) (gName 1))
      (tAsg (tOp rMod (tOp rAddI (tOp rAddI (tOp rMulI (tVar 2) (tC (.int 40503))) (tOp rMulI tAbs3 (tC (.int 2)))) (tCB rIntB (tCons (tOp rLtI (tVar 3) (tC (.int 0))) tNil))) (tC (.int 2305843009213693951))) (gName 2))))
  (tRet (tLst (tCons (tVar 1) (tCons (tVar 2) tNil)))))
def spBoot (K : PySem.W.Frag) (cl xc : Nat → Addr) (xf : Nat → Str) : Sp := spOpenG (jsS K cl xc xf) Few K
end Mp

/-! OA: four names at once. -/
namespace Mp
open PySem PySem.Spec L2
variable {J : Type}
def sPr4 (i k l n : Nat) (fa fb fc fd : Ev J) (m : Sd) (j : J) (P : Fl → Sd → J → Prop) (E : XP J) : Prop := fa m j (fun x j1 => fb m j1 (fun y j2 => fc m j2 (fun z j3 => fd m j3 (fun u j4 => P .next ((((m.set i (some x)).set k (some y)).set l (some z)).set n (some u)) j4) E) E) E) E
instance {i k l n : Nat} {f1 f2 f3 f4 : Ev J} [h1 : MoE f1] [h2 : MoE f2] [h3 : MoE f3] [h4 : MoE f4] : MoS (sPr4 i k l n f1 f2 f3 f4) := ⟨fun h q x => h1.mo h (fun _ _ h => h2.mo h (fun _ _ h => h3.mo h (fun _ _ h => h4.mo h (fun _ _ p => q _ _ _ p) x) x) x) x⟩
section
variable {S : Js J} {B : Bs} {M : Nat → Bool} {W : WX} {X : Cx} {i k l n : Nat} {a b c e : Expr} {fa fb fc fe : Ev J} {pos px py pz pu pt pt2 : Pos} {kt k2 : Nat} {x y z u : Str}
end
@[simp ↓] theorem a_spr4 {i k l n : Nat} {fa fb fc fd : Ev J} {m : Sd} {j : J} {PS : Fl → Sd → J → Prop} {E : XP J} : sPr4 i k l n fa fb fc fd m j PS E = fa m j (fun x j1 => fb m j1 (fun y j2 => fc m j2 (fun z j3 => fd m j3 (fun u j4 => PS .next ((((m.set i (some x)).set k (some y)).set l (some z)).set n (some u)) j4) E) E) E) E := rfl
end Mp

/-! NK: str(x). -/
namespace Mp
open PySem PySem.Spec L2
open PyProof.Rows hiding St
variable {J : Type}
def strD : D → Option Str
  | .str x => some x
  | d => reprD d
def strX : List D → Option D
  | [d] => match strD d with | some x => some (.str x) | none => none
  | _ => none
def rStr (S : Js J) : List V → Hp → VK → Prop := fun vs H Q => ∃ G d v x, vs = [v] ∧ Same G H ∧ (∃ o u, H sysModules = some (.frz o u)) ∧ Rp S G d v ∧ strD d = some x ∧ Q (.str x) H
section
variable {S : Js J} {X : Cx} {ci : Bool}
variable {B : Bs} {M : Nat → Bool} {W : WX} {e : Expr} {es : List Expr} {pos p : Pos} {fr : Av J}
end
@[simp] theorem str_d {d : D} : strX [d] = match strD d with | some x => some (.str x) | none => none := rfl
end Mp

/-! OC: is True, is not False. -/
namespace Mp
open PySem PySem.Spec L2
variable {J : Type}
def isBD : D → D → Option D
  | .bl a, .bl b => some (.bl (decide (a = b)))
  | _, _ => none
def notBD : D → D → Option D
  | .bl a, .bl b => some (.bl (!decide (a = b)))
  | _, _ => none
@[simp] theorem isB_i {a b : Bool} : isBD (.bl a) (.bl b) = some (.bl (decide (a = b))) := rfl
@[simp] theorem notB_i {a b : Bool} : notBD (.bl a) (.bl b) = some (.bl (!decide (a = b))) := rfl
end Mp

/-! OE: xs.count(v) of a list of ints or of truths; an owned list + a list. -/
namespace Mp
open PySem PySem.Spec L2
open PyProof.Rows hiding St
variable {J : Type}
def countD : D → D → Option D
  | .lst xs, .int k => match ints? xs with
    | some ns => some (.int (ns.count k : Nat))
    | none => none
  | .lst xs, .bl b => match bls? xs with
    | some bs => some (.int (bs.count b : Nat))
    | none => none
  | _, _ => none
def beqk (b : Bool) (v : Value) : Bool := match v with
  | .bool c => c == b
  | _ => false
def rCntB (K : PySem.W.Frag) : V → List V → Hp → VK → Prop := fun x xs H Q => ∃ (p : Addr) (bs : List Bool) (b : Bool), x = .ref p ∧ xs = [.bl b] ∧ SqL K H p (bs.map V.bl) ∧ Q (.int (bs.count b : Nat)) H
section
variable {X : Cx}
end
def isLs : D → Prop
  | .lst _ => True
  | _ => False
def eMtL (φ : D → D → Option D) (fo fe : Ev J) (m : Sd) (j : J) (P : D → J → Prop) (E : XP J) : Prop := fo m j (fun x j1 => isLs x ∧ fe m j1 (fun y j2 => ∃ z, φ x y = some z ∧ P z j2) E) E
instance {φ : D → D → Option D} {fo fe : Ev J} [h1 : MoE fo] [h2 : MoE fe] : MoE (eMtL φ fo fe) := ⟨fun p q x => h1.mo p (fun _ _ ⟨l, p⟩ => ⟨l, h2.mo p (fun _ _ ⟨z, e, p⟩ => ⟨z, e, q _ _ p⟩) x⟩) x⟩
section
variable {S : Js J} {B : Bs} {M : Nat → Bool} {W : WX} {X : Cx} {e o b : Expr} {x : Str} {pos p apos : Pos} {fo fe fb : Ev J}
end
@[simp] theorem addL_l {xs ys : List D} : addL (.lst xs) (.lst ys) = if xs.length + ys.length ≤ LINE then some (.lst (xs ++ ys)) else none := rfl
end Mp

/-! OF: t == () whatever the items are. -/
namespace Mp
open PySem PySem.Spec L2
open PyProof.Rows hiding St
variable {J : Type}
def eqTD (x y : D) : Option D := match x, y with | .tup (_ :: _), .tup [] => some (.bl false) | x, y => eqD x y
def rTn (K : PySem.W.Frag) : R2 := fun x y H Q => ∃ a c xs, x = .ref a ∧ y = .ref c ∧ SqT K H a xs ∧ SqT K H c [] ∧ xs ≠ [] ∧ Q (.bl false) H
section
variable {S : Js J} {X : Cx}
theorem op_eqTn (hu : X.A.units + 64 < cLine) : OpR X (compareOp .Eq) (rTn X.K) := by
  intro pins s σ H x y v u Q I rx ry h
  obtain ⟨a, c, xs, rfl, rfl, ha, hc, hx, q⟩ := h
  cases rx; cases ry
  obtain ⟨its, r, t1, _⟩ := I.tuple ha
  obtain ⟨its', r', t2, _⟩ := I.tuple hc
  cases r'
  have h0 : 0 < xs.length := List.length_pos_iff.mpr hx
  have hl := r.length
  have := SeqAt.RcAt.tuples (A := X.A) (s := s) (items := its.toArray) (items2 := #[]) (e := fun _ => true) t1 t2 (by omega) (fun j h1 h2 => absurd h2 (by simp))
  have e : ((List.range (min its.toArray.size (#[] : Array Value).size)).all (fun _ => true) && its.toArray.size == (#[] : Array Value).size) = false := by
    simp
    intro z
    rw [z] at hl
    simp at hl
    exact hx hl
  rw [e] at this
  exact this _ _ _ _ ⟨.bl _, H, I, rfl, q⟩
theorem kEqT (hK : X.K = S.K) (hu : X.A.units + 64 < cLine) : OpR X (compareOp .Eq) (fun x y H Q => rEqE S.K x y H Q ∨ rTn S.K x y H Q) := (kEq hK hu).or (hK ▸ op_eqTn hu)
theorem s_eqT : OpS S (fun x y H Q => rEqE S.K x y H Q ∨ rTn S.K x y H Q) eqTD false .clean := by
  intro B g H j d1 d2 d v1 v2 Q ok h1 h2 e q
  unfold eqTD at e
  split at e
  · cases e
    obtain ⟨a, vs, rfl, ha, rl⟩ := tup_of h1
    obtain ⟨c, ws, rfl, hc, rm⟩ := tup_of h2
    cases rm
    refine .inr ⟨_, _, _, rfl, rfl, (ha.same ok.gh).t, (hc.same ok.gh).t, fun z => ?_, q g _ H (Le.refl g) ok (.bl _)⟩
    rw [z] at rl; cases rl
  · exact .inl (s_eq B g H j _ _ d v1 v2 Q ok h1 h2 e q)
end
@[simp] theorem eqT_n {xs : List D} : eqTD (.tup xs) (.tup []) = some (.bl xs.isEmpty) := by
  cases xs with
  | nil => exact (show eqD (.tup []) (.tup []) = some (.bl true) from rfl)
  | cons x r => rfl
end Mp

/-! OG: t.count(k), t a tuple of ints. -/
namespace Mp
open PySem PySem.Spec L2
open PyProof.Rows hiding St
variable {J : Type}
def countT : D → D → Option D
  | .tup xs, .int k => match ints? xs with
    | some ns => some (.int (ns.count k : Nat))
    | none => none
  | _, _ => none
def rCntT (K : PySem.W.Frag) : V → List V → Hp → VK → Prop := fun x xs H Q => ∃ (p : Addr) (ns : List Int) (k : Int), x = .ref p ∧ xs = [.int k] ∧ SqT K H p (ns.map V.int) ∧ Q (.int (ns.count k : Nat)) H
section
variable {X : Cx}
end
def cntD : D → D → Option D
  | .tup xs, .int k => match ints? xs with
    | some ns => some (.int (ns.count k : Nat))
    | none => none
  | x, y => countD x y
section
variable {S : Js J} {B : Bs} {M : Nat → Bool} {W : WX} {X : Cx} {e o b : Expr} {x : Str} {pos p apos : Pos} {fo fe fb : Ev J}
end
end Mp

/-! OH: a def with one keyword-only parameter, an int by default. -/
namespace Mp
open PySem PySem.Spec L2
open PyProof.Rows hiding St
variable {J : Type}
/-- f(e, .., k=v): the value is the last argument -/
def eCallK (φ : Fv J) (fa : Av J) (fk : Ev J) (m : Sd) (j : J) (P : D → J → Prop) (E : XP J) : Prop := fa m j (fun xs j1 => fk m j1 (fun y j2 => φ (xs ++ [y]) j2 P (fun e j' => E e m j')) E) E
/-- f(e, ..), k by default -/
def eCallD (φ : Fv J) (dv : D) (fa : Av J) (m : Sd) (j : J) (P : D → J → Prop) (E : XP J) : Prop := fa m j (fun xs j1 => φ (xs ++ [dv]) j1 P (fun e j' => E e m j')) E
instance {φ : Fv J} {fa : Av J} {fk : Ev J} [hf : MoF φ] [ha : MoA fa] [hk : MoE fk] : MoE (eCallK φ fa fk) := ⟨fun h q x => ha.mo h (fun _ _ p => hk.mo p (fun _ _ p => hf.mo p q fun _ _ => x _ _ _) x) x⟩
instance {φ : Fv J} {fa : Av J} {dv : D} [hf : MoF φ] [ha : MoA fa] : MoE (eCallD φ dv fa) := ⟨fun h q x => ha.mo h (fun _ _ p => hf.mo p q fun _ _ => x _ _ _) x⟩
/-- a default: None, a truth or an int -/
def dvV : D → V
  | .int i => .int i
  | .bl b => .bl b
  | _ => .non
def dvB : D → Bool
  | .int _ => true
  | .bl _ => true
  | .non => true
  | _ => false
theorem dvR {S : Js J} {F : Hp} {d : D} (h : dvB d = true) : Rp S F d (dvV d) := by
  cases d <;> first | (cases h; done) | constructor
/-- a def with n parameters and the keyword kw, by default dv -/
structure CalK (S : Js J) (P : Program) (w : World) (mg : Str → Option Value) (base : Heap) (k : Nat) (x : Str) (n : Nat) (kw : Str) (dv : D) (φ : Fv J) : Prop where
  ex : ∃ fn fd ps ds, FnG P w S.K mg base (L2.CX P w) k fn fd ps (spF S (n + 1) φ) ∧ mg x = some (.ref fn) ∧ PySem.W.keepIn S.K (.ref fn) = true ∧ Vals [dvV dv] ds ∧ Binds S.K fd ps ds ∧ ps.length = n + 1 ∧
    ∀ (s : Shared) (us ws : List Value), S.K.In s.heap → us.length = n → ws.length = 1 → BindsTo s fd ⟨us, [kw].zip ws⟩ (ps.zip (us ++ ws))
  ln : ∀ ds j P E, φ ds j P E → ds.length = n + 1
  cd : dvB dv = true
section
variable {X : Cx} {CX : CXT} {k n : Nat} {f : Addr} {fd : FuncData} {ps : List Str} {sp : Sp} {E : St → XK} {x kw : Str} {p pos : Pos} {e : Expr} {es : List Expr} {kws : List Keyword} {t tk : TA} {dvs : List V} {ds : List Value}
def tCallKS (n : Nat) (sp : Sp) (E : St → XK) (t tk : TA) : TE := fun σ H Q => t σ H fun vs H1 => tk σ H1 fun zs H2 => vs.length = n ∧ zs.length = 1 ∧ sp (vs ++ zs) H2 Q (E σ)
def tCallDS (sp : Sp) (dvs : List V) (E : St → XK) (t : TA) : TE := fun σ H Q => t σ H fun vs H1 => sp (vs ++ dvs) H1 Q (E σ)
theorem after_call {pins : List (Addr × Obj)} {σ : St} {H : Hp} {s : Shared} {Q : VK} {EE : XK} {g : Value} {args : Args} (hx : PassesAt CX X σ EE) (I : Inv X pins σ H s)
    (h : codeAny (model X.prog X.w) X.A (.call g args) (CR CX X.stack X.prog X.w H s Q EE) s) : wpAny (model X.prog X.w) X.A (call g args.pos args.kw) (EP X pins σ Q) X.xe s := by
  refine wpAny_call (codeAny_mono h fun r s' hq => ?_)
  cases r with
  | error e => exact hx pins H s e s' I hq
  | ok fl =>
    cases fl with
    | ret u => exact I.after hq
    | next => exact False.elim hq
    | brk => exact False.elim hq
    | cont => exact False.elim hq
theorem pe_callKS (F : FnG X.prog X.w X.K X.mg X.base CX k f fd ps sp) (hr : Room k X.A) (hgd : X.A.guards = some []) (hg : Gl X x) (hm : X.mg x = some (.ref f)) (hk : PySem.W.keepIn X.K (.ref f) = true)
    (hb : ∀ (s : Shared) (us ws : List Value), X.K.In s.heap → us.length = n → ws.length = 1 → BindsTo s fd ⟨us, [kw].zip ws⟩ (ps.zip (us ++ ws))) (hx : ∀ σ, PassesAt CX X σ (E σ))
    (ha : PA X (e :: es) t) (hkw : PK X kws tk) (hall : (backToKw pos (keywordEach kws X.env)).all (·.1.isSome) = true) (hks : (backToKw pos (keywordEach kws X.env)).filterMap (·.1) = [kw]) (hdb : (x == ("__debug__" : Str)) = false) (he : starEach (e :: es) X.env = (false, eval e X.env) :: starEach es X.env)
    (hpl : ((backTo pos (starEach (e :: es) X.env)).any (·.1) || (backToKw pos (keywordEach kws X.env)).any (·.1.isNone)) = false) : PE X (.Call (.Name x p) (e :: es) kws pos) (tCallKS n sp E t tk) := by
  refine ⟨fun pins s σ H Q I h => ?_⟩
  refine wpAny_Call_Name_kw (ld_glob I hg hm ?_ hdb)
  refine PySem.W.callWith_KW (h₀ := X.base) I.ok.mod.kin hk hall (thn (ha.run pos pins s σ H _ I h) fun us s1 ⟨vs, H1, I1, r, q⟩ => ?_) hpl he
  refine thn (hkw.run pos pins s1 σ H1 _ I1 q) fun ws s2 ⟨zs, H2, I2, rz, l1, l2, q2⟩ => ⟨I2.kIn, ?_⟩
  rw [hks]
  exact after_call (args := ⟨us, [kw].zip ws⟩) (hx σ) I2 (F.run X.A X.stack s2 H2 ⟨us, [kw].zip ws⟩ (us ++ ws) (vs ++ zs) Q (E σ) hr hgd I2.env0 (hb s2 us ws I2.kIn (r.length.symm.trans l1) (rz.length.symm.trans l2)) (r.append rz) q2)
theorem pe_callDS (F : FnG X.prog X.w X.K X.mg X.base CX k f fd ps sp) (hr : Room k X.A) (hgd : X.A.guards = some []) (hg : Gl X x) (hm : X.mg x = some (.ref f)) (hk : PySem.W.keepIn X.K (.ref f) = true) (hb : Binds X.K fd ps ds) (hd : Vals dvs ds) (hx : ∀ σ, PassesAt CX X σ (E σ))
    (ha : PA X (e :: es) t) (hdb : (x == ("__debug__" : Str)) = false) (he : starEach (e :: es) X.env = (false, eval e X.env) :: starEach es X.env) (hpl : (backTo pos (starEach es X.env)).any (·.1) = false) : PE X (.Call (.Name x p) (e :: es) [] pos) (tCallDS sp dvs E t) := by
  refine ⟨fun pins s σ H Q I h => ?_⟩
  refine wpAny_Call_Name_kw (ld_glob I hg hm ?_ hdb)
  refine PySem.W.callWith_K (h₀ := X.base) I.ok.mod.kin hk (thn (ha.run pos pins s σ H _ I h) fun us s1 ⟨vs, H1, I1, r, q⟩ => ⟨I1.kIn, ?_⟩) he hpl
  have r2 : Vals (vs ++ dvs) (us ++ ds) := r.append hd
  have hl : (us ++ ds).length = ps.length := by rw [← r2.length]; exact F.len _ _ _ _ q
  exact after_call (args := ⟨us, []⟩) (hx σ) I1 (F.run X.A X.stack s1 H1 ⟨us, []⟩ (us ++ ds) (vs ++ dvs) Q (E σ) hr hgd I1.env0 (hb s1 us I1.kIn hl) r2 q)
end
section
variable {S : Js J} {B : Bs} {M : Nat → Bool} {W : WX} {X : Cx} {e ke : Expr} {es : List Expr} {pos p kpos : Pos} {fr : Av J} {fk : Ev J} {x kw : Str} {φ : Fv J} {k n : Nat} {dv : D}
theorem callK (hK : X.K = S.K) (tk : Takes X W) (C : CalK S X.prog X.w X.mg X.base k x n kw dv φ) (hr : Room k X.A) (hgd : X.A.guards = some []) (ha : PA X (e :: es) (rdA S B M W true fr)) (hk : PE X ke (rdE S B M W .clean fk)) (hg : Gl X x := by rfl) (hdb : (x == ("__debug__" : Str)) = false := by decide)
    (hall : (backToKw pos (keywordEach [⟨some kw, ke, kpos⟩] X.env)).all (·.1.isSome) = true := by rfl) (hks : (backToKw pos (keywordEach [⟨some kw, ke, kpos⟩] X.env)).filterMap (·.1) = [kw] := by rfl) (he : starEach (e :: es) X.env = (false, eval e X.env) :: starEach es X.env := by rfl)
    (hpl : ((backTo pos (starEach (e :: es) X.env)).any (·.1) || (backToKw pos (keywordEach [⟨some kw, ke, kpos⟩] X.env)).any (·.1.isNone)) = false := by rfl) :
    PE X (.Call (.Name x p) (e :: es) [⟨some kw, ke, kpos⟩] pos) (rdE S B M W .clean (eCallK φ fr fk)) := by
  obtain ⟨fn, fd, ps, ds, F, h1, h2, h3, h4, h5, h6⟩ := C.ex
  refine PE.imp (pe_callKS (n := n) (hK ▸ F) hr hgd hg h1 (hK ▸ h2) (hK ▸ h6) (passAt tk) ha (pk_cons hk pk_nil) hall hks hdb he hpl) fun R H Q ⟨g, m, j, P, E, ok, hf, q, xo⟩ => ?_
  refine ⟨g, m, j, _, E, ok, hf, fun xs j1 g1 vs H1 p1 l1 ok1 w1 => ?_, xo⟩
  refine ⟨g1, m, j1, _, E, ok1, p1, fun y j2 g2 v H2 p2 l2 ok2 w2 => ?_, xo.le l1.f⟩
  have w1' : RpL S g2.F xs vs := RpL.mono l2.f w1
  have w3 : RpL S g2.F (xs ++ [y]) (vs ++ [v]) := w1'.append (.cons w2 .nil)
  have hl := C.ln _ _ _ _ p2
  refine ⟨?_, rfl, ?_⟩
  · rw [← w1.length]; simp at hl; exact hl
  · refine ⟨g2.F, g2.A, j2, xs ++ [y], P, _, ok2.b.fg.trans ok2.b.gh, fun b o e => ok2.b.ga b o (ok2.b.fg b o e), ok2.b.jr, ok2.b.sm, w3, hl, p2, fun d j' F' A' H' v pd pp rv => ?_, fun e j' F' A' H' cls dx pe pp rv => ?_⟩
    · obtain ⟨l3, ok3⟩ := post_clean ok2.b pp
      exact q d j' _ v H' pd ((l1.trans l2).trans l3) ⟨ok3, ok2.s.le l3⟩ rv
    · obtain ⟨l3, ok3⟩ := post_clean ok2.b pp
      exact xo e m j' _ R H' cls dx pe ((l1.trans l2).trans l3).f ⟨ok3, ok2.s.le l3⟩ rv
theorem callD (hK : X.K = S.K) (tk : Takes X W) (C : CalK S X.prog X.w X.mg X.base k x n kw dv φ) (hr : Room k X.A) (hgd : X.A.guards = some []) (ha : PA X (e :: es) (rdA S B M W true fr)) (hg : Gl X x := by rfl) (hdb : (x == ("__debug__" : Str)) = false := by decide)
    (he : starEach (e :: es) X.env = (false, eval e X.env) :: starEach es X.env := by rfl) (hpl : (backTo pos (starEach es X.env)).any (·.1) = false := by rfl) :
    PE X (.Call (.Name x p) (e :: es) [] pos) (rdE S B M W .clean (eCallD φ dv fr)) := by
  obtain ⟨fn, fd, ps, ds, F, h1, h2, h3, h4, h5, h6⟩ := C.ex
  refine PE.imp (pe_callDS (hK ▸ F) hr hgd hg h1 (hK ▸ h2) (hK ▸ h4) h3 (passAt tk) ha hdb he hpl) fun R H Q ⟨g, m, j, P, E, ok, hf, q, xo⟩ => ?_
  refine ⟨g, m, j, _, E, ok, hf, fun xs j1 g1 vs H1 p1 l1 ok1 w1 => ?_, xo⟩
  have w3 : RpL S g1.F (xs ++ [dv]) (vs ++ [dvV dv]) := RpL.append w1 (.cons (dvR C.cd) .nil)
  refine ⟨g1.F, g1.A, j1, xs ++ [dv], P, _, ok1.b.fg.trans ok1.b.gh, fun b o e => ok1.b.ga b o (ok1.b.fg b o e), ok1.b.jr, ok1.b.sm, w3, C.ln _ _ _ _ p1, p1, fun d j' F' A' H' v pd pp rv => ?_, fun e j' F' A' H' cls dx pe pp rv => ?_⟩
  · obtain ⟨l2, ok2⟩ := post_clean ok1.b pp
    exact q d j' _ v H' pd (l1.trans l2) ⟨ok2, ok1.s.le l2⟩ rv
  · obtain ⟨l2, ok2⟩ := post_clean ok1.b pp
    exact xo e m j' _ R H' cls dx pe (l1.trans l2).f ⟨ok2, ok1.s.le l2⟩ rv
end
theorem binds_kw {K : PySem.W.Frag} {x qual : Str} {st : Stmt} {f : Addr} {dc pm cd ct oc : Value} {an od : Option Addr} {sl : Array (Option Value)} {ps : List Str} {n : Nat} {kw : Str} {dv : V} {val : Value} {KD : Addr} (lk : K.lookup f = some ⟨oc, od, .func (PySem.W.fnOf x qual (defArgs st) (defBody st) (defScope st) .none (.ref KD) dc pm an cd ct), sl⟩) (hc : PySem.W.codeIn K cd qual = true) (kp : PySem.W.keepIn K (.ref f) = true) (hd : PySem.W.nsIn K KD kw = some (some val)) (hr : RelV dv val) (hn : n + 1 = ps.length)
    (h : ∀ (D : Addr) (doc pm : Value) (an : Option Addr) (cdv ct : Value) (us ks : List Value), us.length = n → ks.length = 1 → KwChain D ([kw].zip ks) (bindArgs (PySem.W.fnOf x qual (defArgs st) (defBody st) (defScope st) .none (.ref D) doc pm an cdv ct) ⟨us, []⟩) (ps.zip (us ++ ks))) :
    ∃ ds, Vals [dv] ds ∧ Binds K (PySem.W.fnOf x qual (defArgs st) (defBody st) (defScope st) .none (.ref KD) dc pm an cd ct) ps ds :=
  FunD.binds0 (kws := [(kw, dv)]) (f := f) ⟨⟨_, _, _, _, _, _, _, _, _, _, rfl, lk, hc, .inl ⟨rfl, rfl⟩, .inr ⟨KD, rfl, fun q hq => by
    simp at hq; subst hq; exact ⟨_, hd, hr⟩⟩⟩, kp⟩ n (by simp) (by simpa using hn) h
/-! ### a slot that owns something from here on -/
def onlyR (P : Fl → Sd → J → Prop) : Fl → Sd → J → Prop
  | .ret d, m, j => P (.ret d) m j
  | _, _, _ => False
def sSw (i : Nat) (f : Sv J) (m : Sd) (j : J) (P : Fl → Sd → J → Prop) (E : XP J) : Prop := f (m.set i none) j (onlyR P) xNo
theorem onlyR_mo {P P' : Fl → Sd → J → Prop} (q : ∀ l m j, P l m j → P' l m j) : ∀ l m j, onlyR P l m j → onlyR P' l m j
  | .ret _, _, _, h => q _ _ _ h
  | .next, _, _, h => h
  | .brk, _, _, h => h
  | .cnt, _, _, h => h
instance {i : Nat} {f : Sv J} [h1 : MoS f] : MoS (sSw i f) := ⟨fun h q x => h1.mo h (onlyR_mo q) fun _ _ _ z => z⟩
@[simp ↓] theorem a_callk {φ : Fv J} {fa : Av J} {fk : Ev J} {m : Sd} {j : J} {P : D → J → Prop} {E : XP J} : eCallK φ fa fk m j P E = fa m j (fun xs j1 => fk m j1 (fun y j2 => WF φ (xs ++ [y]) j2 P (fun e j' => E e m j')) E) E := rfl
@[simp ↓] theorem a_calld {φ : Fv J} {fa : Av J} {dv : D} {m : Sd} {j : J} {P : D → J → Prop} {E : XP J} : eCallD φ dv fa m j P E = fa m j (fun xs j1 => WF φ (xs ++ [dv]) j1 P (fun e j' => E e m j')) E := rfl
@[simp ↓] theorem a_sw {i : Nat} {f : Sv J} {m : Sd} {j : J} {P : Fl → Sd → J → Prop} {E : XP J} : sSw i f m j P E = f (m.set i none) j (onlyR P) xNo := rfl
@[simp] theorem onlyR_r {P : Fl → Sd → J → Prop} {d : D} {m : Sd} {j : J} : onlyR P (.ret d) m j = P (.ret d) m j := rfl
end Mp

/-! OI: isinstance(x, (T, U)) of built-in types; defs that call themselves. -/
namespace Mp
open PySem PySem.Spec L2
open PyProof.Rows hiding St
variable {J : Type}
def isi2D (T U : String) (d : D) : Option D := match tyD d with
  | some t => match kitB t T, kitB t U with | some b, some c => some (.bl (b || c)) | _, _ => none
  | none => none
section
variable {S : Js J} {B : Bs} {M : Nat → Bool} {W : WX} {X : Cx} {e : Expr} {pos p p2 p3 pt : Pos} {fe : Ev J} {x y : Str} {kt : Nat}
end
/-! ### two names at once, one of them read in a comprehension -/
section
variable {S : Js J} {B : Bs} {M : Nat → Bool} {W : WX} {X : Cx} {i k : Nat} {a b : Expr} {fa fb : Ev J} {pos px py pt pt2 : Pos} {kt k2 : Nat} {x y : Str}
end
/-! ### m, n = divmod(a, b) -/
def sDm (i k : Nat) (fa fb : Ev J) (m : Sd) (j : J) (P : Fl → Sd → J → Prop) (E : XP J) : Prop := fa m j (fun x j1 => fb m j1 (fun y j2 => ∃ a b : Int, x = .int a ∧ y = .int b ∧ 0 < b ∧ sm b = true ∧ P .next ((m.set i (some (.int (a / b)))).set k (some (.int (a % b)))) j2) E) E
instance {i k : Nat} {f1 f2 : Ev J} [h1 : MoE f1] [h2 : MoE f2] : MoS (sDm i k f1 f2) := ⟨fun h q x => h1.mo h (fun _ _ h => h2.mo h (fun _ _ ⟨a, b, e1, e2, c1, c2, p⟩ => ⟨a, b, e1, e2, c1, c2, q _ _ _ p⟩) x) x⟩
@[simp ↓] theorem a_dm {i k : Nat} {fa fb : Ev J} {m : Sd} {j : J} {PS : Fl → Sd → J → Prop} {E : XP J} : sDm i k fa fb m j PS E = fa m j (fun x j1 => fb m j1 (fun y j2 => ∃ a b : Int, x = .int a ∧ y = .int b ∧ 0 < b ∧ sm b = true ∧ PS .next ((m.set i (some (.int (a / b)))).set k (some (.int (a % b)))) j2) E) E := rfl
section
variable {S : Js J} {B : Bs} {M : Nat → Bool} {W : WX} {X : Cx} {i k : Nat} {a b : Expr} {fa fb : Ev J} {pos px py pt p cp : Pos} {kt : Nat} {x y : Str}
end
/-! ### a slot that owns nothing from here to the block's end -/
def sUn (i : Nat) (f : Sv J) (m : Sd) (j : J) (P : Fl → Sd → J → Prop) (E : XP J) : Prop := f (m.set i none) j (fun l m' j' => P l (m'.set i none) j') xNo
instance {i : Nat} {f : Sv J} [h1 : MoS f] : MoS (sUn i f) := ⟨fun h q x => h1.mo h (fun _ _ _ p => q _ _ _ p) fun _ _ _ z => z⟩
@[simp ↓] theorem a_un1 {i : Nat} {f : Sv J} {m : Sd} {j : J} {PS : Fl → Sd → J → Prop} {E : XP J} : sUn i f m j PS E = f (m.set i none) j (fun l m' j' => PS l (m'.set i none) j') xNo := rfl
/-! ### defs that call themselves -/
def recF (N n : Nat) (g : Fv J → Sv J) : Nat → Fv J
  | 0 => fun _ _ _ _ => False
  | m + 1 => runF N n (g (recF N n g m))
theorem mo_rec {N n : Nat} {g : Fv J → Sv J} (h : ∀ φ, MoF φ → MoS (g φ)) : ∀ m, MoF (recF N n g m)
  | 0 => ⟨fun h => h.elim⟩
  | m + 1 => by
    have : MoS (g (recF N n g m)) := h _ (mo_rec (N := N) (n := n) h m)
    exact inferInstanceAs (MoF (runF N n (g (recF N n g m))))
theorem cal_rec {S : Js J} {P : Program} {w : World} {mg : Str → Option Value} {base : Heap} {x : Str} {st : Stmt} {f : Addr} {fd : FuncData} {N ps : List Str} {n lev : Nat} {M : Nat → Bool} {g : Fv J → Sv J} (F : L2.Fun S.K x x st f fd) (Sc : FnScope N ps (defScope st)) (hn : ps.length = n) (hM : ∀ i, i < n → M i = false) (hm : mg x = some (.ref f)) (hb : Binds S.K fd ps [])
    (hbody : ∀ (m : Nat) (φ : Fv J), Cal S P w mg base (lev + 1 + m) x n φ → ∀ (cdv : Value) (A : Around) (outer : List Env) (s : Shared) (H : Hp) (E : XK) (B : Bs), Room (lev + 1 + m) (A.deeper (envOfC x (defScope st) s.heap.objs.size f cdv)) → (A.deeper (envOfC x (defScope st) s.heap.objs.size f cdv)).guards = some [] →
      PSs (cxE P w S.K mg base N x (defScope st) f cdv A outer s H E) (defBody st) (rdS S B M (WD E) (g φ))) : ∀ m, Cal S P w mg base (lev + 1 + m) x n (recF N.length n g m)
  | 0 => ⟨⟨f, fd, ps, (fnG_sp (k := lev) F Sc (fun vs H Q E h => by
      obtain ⟨_, _, _, ds, _, _, _, _, _, _, rp, hl, h, _⟩ := h
      exact h.elim) (fun cdv A outer s H vs Q E hr hgd h => by
      obtain ⟨_, _, _, ds, _, _, _, _, _, _, rp, hl, h, _⟩ := h
      exact h.elim)).ofN, hm, F.kp, hb⟩, fun ds j P E h => h.elim⟩
  | m + 1 => ⟨⟨f, fd, ps, fnG_D F Sc hn hM (fun cdv A outer s H E B hr hgd => hbody m _ (cal_rec F Sc hn hM hm hb hbody m) cdv A outer s H E B hr hgd), hm, F.kp, hb⟩, runF_len⟩
end Mp

/-! OJ: the least item of a tuple of ints. -/
namespace Mp
open PySem PySem.Spec L2
open PyProof.Rows hiding St
section
variable {X : Cx}
def rMinT (K : PySem.W.Frag) : List V → Hp → VK → Prop := fun vs H Q => ∃ (a : Addr) (ns : List Int), vs = [V.ref a] ∧ SqT K H a (ns.map V.int) ∧ 0 < ns.length ∧ ∀ m, m ∈ ns → (∀ y, y ∈ ns → m ≤ y) → Q (.int m) H
theorem cr_minT (hc : X.calm = true) : CallR X (.builtin "min") (rMinT X.K) := by
  intro pins s σ H vs us Q I r h
  obtain ⟨a, ns, rfl, hs, hne, q⟩ := h
  obtain ⟨its, rv, ht, hz⟩ := I.tuple hs
  rw [Vals.ref1 r]
  have hlen : its.length = ns.length := by have := rv.length; rw [List.length_map] at this; exact this.symm
  have hT : s.heap.IsTuple a its.toArray := ht
  refine call_min_walk (wpAny_pyIter_tuple hT ?_)
  have hlt : a < s.heap.objs.size := by
    obtain ⟨o, ho, _⟩ := ht
    exact Heap.lt_size ho
  have hval : ∀ i v, its.toArray[i]? = some v → ∃ t, v = Value.int (ns.getD i 0) t := fun i v hv => by
    have hi : i < ns.length := by
      have := (Array.getElem?_eq_some_iff.mp hv).1
      simpa [hlen] using this
    obtain ⟨u, hu, t, hu2⟩ := rv.get (i := i) (x := .int ns[i]) (by simp [hi])
    have e : its[i]? = some v := by simpa using hv
    rw [hu] at e
    cases e
    exact ⟨t, by rw [hu2]; simp [List.getD_eq_getElem?_getD, hi]⟩
  refine ⟨_, _, _, _, _, _, _, rfl, Walks.tuple (A := X.A.in1) (I.ok.hd hc) _ a (Nat.ne_of_lt hlt) its.toArray, ⟨⟨_, Heap.get?_push_size _ rfl, rfl, rfl⟩, ?_⟩, ?_, by simpa [hlen] using hne, CmpOf.ints_lt (fun i => ns.getD i 0) hval, fun v h' tk hP hk => ?_⟩
  · obtain ⟨o, ho, hc2⟩ := ht
    exact ⟨o, Heap.get?_push_of_some _ ho, hc2⟩
  · intro b hb
    show b < (s.heap.push _).objs.size
    rw [Heap.size_push]
    rcases List.mem_cons.mp hb with e | hb
    · subst e; exact Nat.lt_succ_self _
    · rcases List.mem_cons.mp hb with e | hb
      · subst e; exact Nat.lt_succ_of_lt hlt
      · cases hb
  · obtain ⟨t, rfl⟩ := hval _ v hP
    obtain ⟨m1, m2⟩ := argBest_lt (fun i => ns.getD i 0) (its.toArray.size - 1)
    have hs2 : its.toArray.size = ns.length := by simp [hlen]
    refine ⟨.int _, H, I.kept fun b o eo => hk b o (fun hm => by
      rcases List.mem_cons.mp hm with e1 | hm
      · exact absurd (e1 ▸ Heap.lt_size eo) (Nat.lt_irrefl _)
      · cases hm) (Heap.get?_push_of_some _ eo), ⟨_, rfl⟩, q _ ?_ fun y hy => ?_⟩
    · have hb : argBest (fun i j => decide (ns.getD i 0 < ns.getD j 0)) (its.toArray.size - 1) < ns.length := by omega
      rw [List.getD_eq_getElem?_getD, List.getElem?_eq_getElem hb]
      exact List.getElem_mem hb
    · obtain ⟨i, hi, rfl⟩ := List.mem_iff_getElem.mp hy
      have := m2 i (by omega)
      have e9 : ns.getD i 0 = ns[i] := by rw [List.getD_eq_getElem?_getD, List.getElem?_eq_getElem hi]; rfl
      rw [e9, List.getD_eq_getElem?_getD] at this
      exact this
end
def minT : List D → Option D
  | [.tup xs] => match ints? xs with | some (a :: r) => some (.int (minL a r)) | _ => none
  | _ => none
section
variable {J : Type} {S : Js J} {B : Bs} {M : Nat → Bool} {W : WX} {X : Cx} {e : Expr} {es : List Expr} {pos p : Pos} {fr : Av J} {ci : Bool}
theorem s_minT : CallS S (rMinT S.K) minT ci .clean := by
  intro B g H j ds d vs Q ok h e q
  unfold minT at e
  split at e
  · rename_i xs
    split at e
    · rename_i a0 r0 hn
      cases e
      have hx := ints?_some hn
      subst hx
      cases h with
      | cons h1 h2 =>
        cases h2
        obtain ⟨a, ws, rfl, ha, ra⟩ := tup_of h1
        have hv := RpL.of_ints ra
        subst hv
        refine ⟨a, a0 :: r0, rfl, (ha.same (ok.sub ci)).t, by simp, fun m hm hmin => ?_⟩
        obtain ⟨m1, m2⟩ := minL_spec r0 a0
        have e2 : m = minL a0 r0 := Int.le_antisymm (hmin _ m1) (m2 m hm)
        subst e2
        exact q g _ H (Le.refl g) ok (.int _)
    · cases e
  · cases e
theorem kMinT (hK : X.K = S.K) (hm : X.mg "min" = none) (ha : PA X (e :: es) (rdA S B M W ci fr)) (hg : Gl X "min" := by rfl) (hc : X.calm = true := by rfl) (he : starEach (e :: es) X.env = (false, eval e X.env) :: starEach es X.env := by rfl) (hpl : (backTo pos (starEach es X.env)).any (·.1) = false := by rfl) :
    PE X (.Call (.Name "min" p) (e :: es) [] pos) (rdE S B M W .clean (eB minT fr)) := kB (cr_minT hc) (by rw [hK]; exact s_minT) hm bt_min ha hg (by decide) (by decide) he hpl
end
end Mp

/-! OR: y = x, both own: y takes what x owns. -/
namespace Mp
open PySem PySem.Spec L2
open PyProof.Rows hiding St
variable {J : Type}
def sMove (i k : Nat) (m : Sd) (j : J) (P : Fl → Sd → J → Prop) (E : XP J) : Prop := ∃ d, m[k]? = some (some d) ∧ P .next ((m.set i (some d)).set k none) j
instance {i k : Nat} : MoS (sMove (J := J) i k) := ⟨fun ⟨d, e, p⟩ q _ => ⟨d, e, q _ _ _ p⟩⟩
@[simp ↓] theorem a_move {i k : Nat} {m : Sd} {j : J} {P : Fl → Sd → J → Prop} {E : XP J} : sMove i k m j P E = ∃ d, m[k]? = some (some d) ∧ P .next ((m.set i (some d)).set k none) j := rfl
theorem slots_move {S : Js J} {g : Gh} {M : Nat → Bool} {r : St} {m : Sd} {i k : Nat} {d : D} {a : Addr} (s : Slots S g M r m) (hi : M i = true) (hk : M k = true) (ne : i ≠ k) (hm : m[k]? = some (some d)) (hr : r[k]? = some (some (.ref a))) :
    Slots S g M (r.set i (some (.ref a))) ((m.set i (some d)).set k none) := by
  have ow : Own S g d a := by
    obtain ⟨b, h1, h2⟩ := s.ow k d hm hk
    rw [hr] at h1
    cases h1
    exact h2
  have get : ∀ {l : Nat} {e : D}, ((m.set i (some d)).set k none)[l]? = some (some e) → l ≠ k ∧ ((l = i ∧ e = d) ∨ (l ≠ i ∧ m[l]? = some (some e))) := fun {l e} h => by
    by_cases hl : l = k
    · subst hl
      by_cases c : l < (m.set i (some d)).length
      · rw [List.getElem?_set_self c] at h; cases h
      · rw [List.getElem?_eq_none (by simpa using c)] at h; cases h
    · rw [List.getElem?_set_ne (Ne.symm hl)] at h
      refine ⟨hl, ?_⟩
      by_cases hl2 : l = i
      · subst hl2
        by_cases c : l < m.length
        · rw [List.getElem?_set_self c] at h; cases h
          exact .inl ⟨rfl, rfl⟩
        · rw [List.getElem?_eq_none (by simpa using c)] at h; cases h
      · rw [List.getElem?_set_ne (Ne.symm hl2)] at h
        exact .inr ⟨hl2, h⟩
  have hil : ∀ {e : D}, ((m.set i (some d)).set k none)[i]? = some (some e) → i < r.length := fun {e} h => by
    have := (List.getElem?_eq_some_iff.mp h).1
    rw [s.len]
    simpa using this
  refine ⟨by simp [s.len], fun l e h z => ?_, fun l e h z => ?_, fun l l' b e e' h h' z z' r1 r2 => ?_⟩
  · rcases (get h).2 with ⟨rfl, _⟩ | ⟨n, h2⟩
    · rw [hi] at z; cases z
    · obtain ⟨v, v1, v2⟩ := s.fr l e h2 z
      exact ⟨v, by rw [List.getElem?_set_ne (Ne.symm n)]; exact v1, v2⟩
  · rcases (get h).2 with ⟨rfl, rfl⟩ | ⟨n, h2⟩
    · exact ⟨a, List.getElem?_set_self (hil h), ow⟩
    · obtain ⟨b, v1, v2⟩ := s.ow l e h2 z
      exact ⟨b, by rw [List.getElem?_set_ne (Ne.symm n)]; exact v1, v2⟩
  · have at_ : ∀ {l : Nat} {e : D} {b : Addr}, ((m.set i (some d)).set k none)[l]? = some (some e) → (r.set i (some (V.ref a)))[l]? = some (some (.ref b)) → (l = i ∧ b = a) ∨ (l ≠ i ∧ l ≠ k ∧ m[l]? = some (some e) ∧ r[l]? = some (some (.ref b))) := fun {l e b} h q => by
      rcases (get h).2 with ⟨rfl, _⟩ | ⟨n, h2⟩
      · rw [List.getElem?_set_self (hil h)] at q
        cases q
        exact .inl ⟨rfl, rfl⟩
      · rw [List.getElem?_set_ne (Ne.symm n)] at q
        exact .inr ⟨n, (get h).1, h2, q⟩
    rcases at_ h r1 with ⟨rfl, rfl⟩ | ⟨n1, n2, h1, q1⟩
    · rcases at_ h' r2 with ⟨rfl, _⟩ | ⟨n3, n4, h3, q3⟩
      · rfl
      · exact absurd (s.dj l' k b e' d h3 hm z' hk q3 hr) n4
    · rcases at_ h' r2 with ⟨rfl, rfl⟩ | ⟨n3, n4, h3, q3⟩
      · exact absurd (s.dj l k b e d h1 hm z hk q1 hr) n2
      · exact s.dj l l' b e e' h1 h3 z z' q1 q3
theorem zMove {S : Js J} {B : Bs} {M : Nat → Bool} {W : WX} {X : Cx} {pos py px : Pos} {y x : Str} (i k : Nat) (hN : X.N.Nodup) (hy : MtN X k x := by exact mtN _) (hMi : M i = true := by rfl) (hMk : M k = true := by rfl) (ne : i ≠ k := by decide) (hi : X.N[i]? = some y := by rfl) (hx : Loc X.env.scope y := by first | exact Or.inl rfl | exact Or.inr rfl)
    (hs : swapsWith (.Name x px) (some (.Name y py)) pos.line X.env = pure false := by rfl) (hf : X.fn y = true ∨ X.env.scope.names.lookup y = some .local := by first | exact Or.inl rfl | exact Or.inr rfl) :
    PS X (.Assign [.Name y py] (.Name x px) pos) (rdS S B M W (sMove i k)) :=
  PS.imp (ps_set hN hi hx hy.pe hs hf) fun E r H ⟨g, m, j, P, Ep, ok, ⟨d, hm, p⟩, q, xo⟩ => by
    obtain ⟨a, hr, _⟩ := ok.s.ow k d hm hMk
    exact ⟨_, hr, q _ _ _ p g _ H (Same.refl _) ⟨ok.b, slots_move ok.s hMi hMk ne hm hr⟩⟩
end Mp

/-! OS: raise C(), C an own class without own __init__. -/
namespace Mp
open PySem PySem.Spec L2
open PyProof.Rows hiding St
variable {J : Type}
abbrev veB : List Value := [.type "ValueError", .type "Exception", .type "BaseException", .type "object"]
/-- such a class -/
structure XM0 (S : Js J) (mg : Str → Option Value) (c : Nat) (x : Str) : Prop where
  q : PySem.W.excIn S.K (S.xc c) veB "ValueError.__new__" = true
  kp : PySem.W.keepIn S.K (.ref (S.xc c)) = true
  sb : PySem.W.subIn S.K (.ref (S.xc c)) (.type "BaseException") = some true
  ty : PySem.W.typeIn S.K (.ref (S.xc c)) = some (.type "type")
  gl : mg x = some (.ref (S.xc c))
def sRaise0 (c : Nat) (m : Sd) (j : J) (P : Fl → Sd → J → Prop) (E : XP J) : Prop := E ⟨c, none⟩ m j
instance {c : Nat} : MoS (sRaise0 (J := J) c) := ⟨fun h _ x => x _ _ _ h⟩
@[simp ↓] theorem a_raise0 {c : Nat} {m : Sd} {j : J} {P : Fl → Sd → J → Prop} {E : XP J} : sRaise0 c m j P E = E ⟨c, none⟩ m j := rfl
section
variable {X : Cx} {C : Addr}
/-- C() -/
theorem pmk_zero {x : Str} {p pos : Pos} (q : PySem.W.excIn X.K C veB "ValueError.__new__" = true) (gC : X.mg x = some (.ref C)) (kC : PySem.W.keepIn X.K (.ref C) = true) (r : Raises X (.ref C)) (hg : Gl X x) (hdb : (x == ("__debug__" : Str)) = false := by decide) :
    PMk X (.Call (.Name x p) [] [] pos) (fun _ H Q => Q (.ref C) none H) := by
  intro pins s σ H Q I h
  refine wpAny_Call_Name_kw (ld_glob I hg gC ?_ hdb)
  refine PySem.W.callWith_K0 I.kIn kC ?_
  rw [List.append_nil]
  obtain ⟨bm, N, nm, qn, bs, hdct, sn, sub, ab, col, dd, k0, k1, k2, k3, k5, mN, hC, hN, hni, T⟩ := exc_obj I.kIn q
  obtain ⟨h1, g1, d1, t1, o1⟩ := s
  refine wpAny_call_exc_subT PySem.F.excBase_ValueError T hC hN hni (fun h' e hm => ?_) (Nat.zero_le _)
  exact mk_of I hm r h (I.hok.gone hm.new)
end
theorem zRaise0 {S : Js J} {B : Bs} {M : Nat → Bool} {W : WX} {X : Cx} {x : Str} {p pos p2 : Pos} (c : Nat) (hK : X.K = S.K) (tk : Takes X W) (C : XM0 S X.mg c x) (hcalm : X.calm = true := by rfl) (hg : Gl X x := by rfl) (hdb : (x == ("__debug__" : Str)) = false := by decide) :
    PS X (.Raise (some (.Call (.Name x p) [] [] pos)) none p2) (rdS S B M W (sRaise0 c)) :=
  PS.imp (ps_raise hcalm tk (pmk_zero (hK ▸ C.q) C.gl (hK ▸ C.kp) (raises_own (hK ▸ C.sb) (hK ▸ C.ty)) hg hdb)) fun En r H ⟨g, m, j, P, Ep, ok, hf, q, xo⟩ =>
    xo _ _ _ _ _ _ _ _ hf (Same.refl _) ok ⟨rfl, rfl⟩
/-! isinstance(e, ..) for a caught exception that may have no data -/
def eIsX0 (a : Addr) (b : Bool) (fe : Ev J) (m : Sd) (j : J) (P : D → J → Prop) (E : XP J) : Prop := fe m j (fun d j1 => d = .obj a ∧ P (.bl b) j1) E
instance {a : Addr} {b : Bool} {fe : Ev J} [h1 : MoE fe] : MoE (eIsX0 a b fe) := ⟨fun h q x => h1.mo h (fun _ _ ⟨e, p⟩ => ⟨e, q _ _ p⟩) x⟩
@[simp ↓] theorem a_isx0 {a : Addr} {b : Bool} {f : Ev J} {m : Sd} {j : J} {P : D → J → Prop} {E : XP J} : eIsX0 a b f m j P E = f m j (fun d j1 => d = .obj a ∧ P (.bl b) j1) E := rfl
def rIsY (K : PySem.W.Frag) (C a : Addr) (d : Option Addr) : List V → Hp → VK → Prop := fun xs H Q => ∃ c : V, xs = [.ref a, c] ∧ (d = none ∨ ∃ dd fs, d = some dd ∧ H dd = some (.xd fs)) ∧
  ((∃ (cv : Value) (b : Bool), (∀ u, RelV c u → u = cv) ∧ PySem.W.kitOne K (.ref C) cv = some b ∧ Q (.bl b) H) ∨
   ∃ (tp : Addr) (o : Obj) (cs : List V) (vs : List Value) (b : Bool), c = .ref tp ∧ H tp = some (.frz o (.tup cs)) ∧ (∀ us, Vals cs us → us = vs) ∧ PySem.W.kitAny K (.ref C) vs = some b ∧ Q (.bl b) H)
section
variable {S : Js J} {B : Bs} {M : Nat → Bool} {W : WX} {X : Cx} {e : Expr} {pos p p2 : Pos} {fe : Ev J} {x : Str} {a : Addr} {oe : Obj} {ex : Ex} {d : Option Addr} {pn : List (Addr × Obj)}
variable {mg : Str → Option Value} {tT : Nat → Nat → Bool} {n : Nat} {names : List (Str × Nat)} {attrs : List Str}
end
/-! xs.index(b), a list of truths -/
def indexB : D → D → Option D
  | .lst xs, .bl k => match bls? xs with
    | some ns => match ns.idxOf? k with
      | some n => some (.int (n : Nat))
      | none => none
    | none => none
  | _, _ => none
section
variable {S : Js J} {B : Bs} {M : Nat → Bool} {W : WX} {X : Cx} {e o : Expr} {pos p apos : Pos} {fo fe : Ev J}
end
end Mp

/-! OW: generators whose consumer does what it likes between two items: the frame of the generator is based anew at each waking. -/
namespace Mp
open PySem PySem.Spec L2
open PyProof.Rows hiding St
open GenW
variable {J : Type}
/-! ### a heap without its youngest objects -/
def cutH (h : Heap) (n : Nat) : Heap := ⟨h.objs.extract 0 n, h.life⟩
def cutS (s : Shared) (n : Nat) : Shared := { s with heap := cutH s.heap n }
theorem ext_get {α : Type} (xs : Array α) (n b : Nat) : (xs.extract 0 n)[b]? = if b < n then xs[b]? else none := by
  rw [Array.getElem?_extract]
  by_cases h : b < n
  · rw [if_pos h, Nat.zero_add]
    by_cases h2 : b < xs.size
    · rw [if_pos (by omega)]
    · rw [if_neg (by omega), Array.getElem?_eq_none (by omega)]
  · rw [if_neg h, if_neg (by omega)]
section
variable {h : Heap} {n b : Nat} {o : Obj}
theorem cut_get (hb : b < n) : (cutH h n).get? b = h.get? b := by
  unfold Heap.get? cutH
  simp only [ext_get]
  rw [if_pos hb]
theorem cut_old (e : (cutH h n).get? b = some o) : b < n ∧ h.get? b = some o := by
  have hb : b < n := by
    have := Heap.lt_size e
    have h2 : (cutH h n).objs.size ≤ n := by unfold cutH; rw [Array.size_extract]; omega
    exact Nat.lt_of_lt_of_le this h2
  exact ⟨hb, by rw [← cut_get hb]; exact e⟩
theorem cut_size (hn : n ≤ h.objs.size) : (cutH h n).objs.size = n := by
  unfold cutH
  rw [Array.size_extract]; omega
theorem funs_cut {base : Heap} : ∀ {l : List Env}, h.FunFrames base l → (∀ b ∈ frs l, b < n) → (cutH h n).FunFrames base l
  | [], _, _ => trivial
  | env :: r, hl, hy => by
    obtain ⟨hk, ⟨L, o, hf, hn, ho, hd⟩, hr⟩ := hl
    have hL : L < n := hy L (by unfold frs; rw [List.filterMap_cons, hf]; exact List.mem_cons_self)
    exact ⟨hk, ⟨L, o, hf, hn, (cut_get hL).trans ho, hd⟩, funs_cut hr fun b hb => hy b (by unfold frs; rw [List.filterMap_cons, hf]; exact List.mem_cons_of_mem _ hb)⟩
end
/-! ### a generator's frame -/
/-- what stays the same: the def, its frame's address, where it is woken, the generator's own object -/
structure GP where
  P : Program
  w : World
  K : PySem.W.Frag
  mg : Str → Option Value
  base : Heap
  N : List Str
  q : Str
  sc : Scope
  f : Addr
  cd : Value
  A : Around
  outer : List Env
  L : Addr
  pn : List (Addr × Obj)
  gn : Nat
def GP.env (G : GP) : Env := envOfC G.q G.sc G.L G.f G.cd
/-- its context, based at s0 -/
def GP.cx (G : GP) (s0 : Shared) (H0 : Hp) (E : XK) : Cx where
  prog := G.P
  w := G.w
  K := G.K
  mg := G.mg
  base := G.base
  A := G.A.deeper (envOfC G.q G.sc G.L G.f G.cd)
  N := G.N
  s_0 := s0
  H_0 := H0
  env := envOfC G.q G.sc G.L G.f G.cd
  outer := G.outer
  stack := envOfC G.q G.sc G.L G.f G.cd :: G.outer
  ex := []
  calm := true
  fn := fun _ => true
  pn := G.pn
  xe := fun e s' => wpAny (model G.P G.w) (G.A.deeper (envOfC G.q G.sc G.L G.f G.cd)) (leaving (envOfC G.q G.sc G.L G.f G.cd) e) (fun _ s'' => CX G.P G.w G.outer H0 s0 E e s'' ∧ ∀ p ∈ G.pn, s''.heap.get? p.1 = some p.2) (fun _ _ => False) s'
/-- it has no cells; the frames below are older than its own -/
structure GP.Good (G : GP) : Prop where
  kind : G.sc.kind = .function
  nc : ∀ y ∈ G.sc.names, y.2 ≠ .cell ∧ y.2 ≠ .free
  cl : cellsFrom (G.L + 1) G.sc.names [] = []
  hd : G.A.handled = none
  bsz : G.base.objs.size ≤ G.L
  young : ∀ b ∈ frs G.outer, b < G.L
theorem takesG {G : GP} {s0 : Shared} {H0 : Hp} {E : XK} : Takes (G.cx s0 H0 E) (WD E) := fun u s' x => XE.leaveG (W := WD E) (E := E) rfl rfl rfl (fun _ _ _ _ h => h) x
theorem ownG {G : GP} {s0 : Shared} {H0 : Hp} {E : XK} : PassesOwn (model G.P G.w) (G.cx s0 H0 E).A (G.cx s0 H0 E).env (G.cx s0 H0 E).xe :=
  passes_of (X := G.cx s0 H0 E) (K := fun e s'' => CX G.P G.w G.outer H0 s0 E e s'' ∧ ∀ p ∈ G.pn, s''.heap.get? p.1 = some p.2) (E₁ := fun _ _ => False) rfl
/-- the frame is based anew -/
theorem inv_wake {G : GP} (gd : G.Good) {s0 s s1 : Shared} {H0 H H1 : Hp} {E E1 : XK} {pins : List (Addr × Obj)} {σ : St} (I : Inv (G.cx s0 H0 E) pins σ H s) (e0 : Env0 G.P G.w G.K G.mg G.base G.A G.outer s1 H1)
    (kL : ∀ o, s.heap.get? G.L = some o → s1.heap.get? G.L = some o) (nL : H1 G.L = none) (kp : ∀ p ∈ G.pn ++ pins, s1.heap.get? p.1 = some p.2 ∧ H1 p.1 = none) : Inv (G.cx (cutS s1 G.L) H1 E1) pins σ H1 s1 := by
  have cE : ∀ x c, (G.cx (cutS s1 G.L) H1 E1).env.cells.lookup x = some c → False := fun x c h => by
    have h : (cellsFrom (G.L + 1) G.sc.names []).lookup x = some c := h
    rw [gd.cl] at h; cases h
  have noL : ∀ x, ¬ (G.sc.names.lookup x = some .cell ∨ G.sc.names.lookup x = some .free) := fun x h => h.elim (fun z => (gd.nc _ (PySem.mem_of_lookup z)).1 rfl) fun z => (gd.nc _ (PySem.mem_of_lookup z)).2 rfl
  obtain ⟨m, ⟨oL, es, ep, hoL, hdL, r⟩, hl⟩ := id I.loc
  have hoL' := kL oL hoL
  have ltL : G.L < s1.heap.objs.size := Heap.lt_size hoL'
  have sz : (cutS s1 G.L).heap.objs.size = G.L := cut_size (Nat.le_of_lt ltL)
  refine ⟨⟨e0.mod, gd.kind, rfl, rfl, Nat.le_of_eq sz, fun y z c h1 h2 => (cE _ _ h1).elim, fun y hy => (noL y hy).elim, fun y c _ h => (cE _ _ h).elim, fun _ => gd.hd, Around.frames_deeper e0.frames, .inr ⟨rfl, rfl⟩, fun b z => (nomatch (show b ∈ ([] : List Addr) from z)), fun b o e => ?_, ?_, fun b o _ z => (nomatch (show b ∈ ([] : List Addr) from z)), fun b z => (nomatch (show b ∈ ([] : List Addr) from z)), funs_cut e0.funs gd.young, e0.frf⟩,
    rfl, e0.bare, Un.kept fun b o e => (cut_old e).2, ⟨m, ⟨oL, es, ep, hoL', hdL, r⟩, fun i x v h1 h2 h3 => ?_⟩, fun x c h => (cE _ _ h).elim, nL, fun x c h => (cE _ _ h).elim, fun p hp => ?_, e0.hok, I.len⟩
  · refine ⟨?_, (e0.bs b o e).2⟩
    exact (cut_get (Nat.lt_of_lt_of_le (Heap.lt_size e) gd.bsz)).trans (e0.bs b o e).1
  · show G.base.objs.size ≤ (cutS s1 G.L).heap.objs.size
    rw [sz]; exact gd.bsz
  · obtain ⟨u, r1, lk⟩ := hl i x v h1 h2 h3
    refine ⟨u, r1, ?_⟩
    rcases lk with k | ⟨k, c, e, _⟩
    · exact .inl k
    · exact (noL x k).elim
  · obtain ⟨h1, h2⟩ := kp p hp
    obtain ⟨_, _, h3, h4, h5⟩ := I.pin p hp
    exact ⟨h1, h2, h3, h4, h5⟩
end Mp

/-! Q0: a run that does not wake the generators that stand: they are put to sleep for good ahead of it, and put back behind it. -/
namespace Mp
open PySem PySem.Spec
open Sem (wp)
/-- frames of no generator's waking -/
def gfr (fs : List Frame) : Prop := ∀ F ∈ fs, ∀ g k l c p, F ≠ Frame.gen g k l c p
theorem gfr_split {fs : List Frame} (h : gfr fs) : splitAtGen fs = none := by
  induction fs with
  | nil => rfl
  | cons F r ih =>
    cases F with
    | gen g k l c p => exact absurd rfl (h _ List.mem_cons_self g k l c p)
    | ret k hd g l c p kp =>
      show (splitAtGen r).map _ = none
      rw [ih fun F hF => h F (List.mem_cons_of_mem _ hF)]; rfl
def gfS : GenState → Prop
  | .suspended _ _ _ _ fs _ => gfr fs
  | _ => True
def gfE : End → Prop
  | .susp _ _ _ _ _ _ fs => gfr fs
  | _ => True
def GFr (T : Array GenState) : Prop := ∀ (i : Nat) (x : GenState), T[i]? = some x → gfS x
/-- sleeps for good -/
def Stuck (y : GenState) : Prop := ∃ l c p fs cl, y = .suspended (fun _ => .unsupported "z") l c p fs cl
def PZ (Z : Nat → Option GenState) (T : Array GenState) : Prop := ∀ (i : Nat) (x : GenState), Z i = some x → ∃ y, T[i]? = some y ∧ y.seen = x.seen ∧ Stuck y
def resG (Z : Nat → Option GenState) (T : Array GenState) : Array GenState := T.mapIdx fun i y => (Z i).getD y
def resS (Z : Nat → Option GenState) (s : Shared) : Shared := { s with gens := resG Z s.gens }
section
variable {Z : Nat → Option GenState} {T : Array GenState} {g : Nat} {x y st : GenState} {s : Shared}
theorem res_get : (resG Z T)[g]? = (T[g]?).map fun y => (Z g).getD y := by
  unfold resG
  rw [Array.getElem?_mapIdx]
theorem res_size : (resG Z T).size = T.size := by unfold resG; rw [Array.size_mapIdx]
theorem PZ.end (h : PZ Z T) : Z T.size = none := by
  cases e : Z T.size with
  | none => rfl
  | some x =>
    obtain ⟨y, h1, _⟩ := h _ _ e
    rw [Array.getElem?_eq_none (Nat.le_refl _)] at h1; cases h1
theorem res_push (h : PZ Z T) : resG Z (T.push x) = (resG Z T).push x := by
  apply Array.ext_getElem?
  intro i
  rw [res_get, Array.getElem?_push, Array.getElem?_push, res_size]
  split
  · rename_i e; subst e; rw [h.end]; rfl
  · rw [res_get]
theorem PZ.push (h : PZ Z T) : PZ Z (T.push x) := fun i x' e => by
  obtain ⟨y, h1, h2⟩ := h i x' e
  refine ⟨y, ?_, h2⟩
  rw [Array.getElem?_push]
  have : i < T.size := (Array.getElem?_eq_some_iff.mp h1).1
  rw [if_neg (by omega)]; exact h1
theorem res_set (h : Z g = none) : resG Z (T.setIfInBounds g x) = (resG Z T).setIfInBounds g x := by
  apply Array.ext_getElem?
  intro i
  rw [res_get]
  by_cases e : i = g
  · subst e
    rw [Array.getElem?_setIfInBounds_self, Array.getElem?_setIfInBounds_self, res_size]
    split
    · show some ((Z i).getD x) = _; rw [h]; rfl
    · rfl
  · rw [Array.getElem?_setIfInBounds_ne (Ne.symm e), Array.getElem?_setIfInBounds_ne (Ne.symm e), res_get]
theorem PZ.set (h : PZ Z T) (hg : Z g = none) : PZ Z (T.setIfInBounds g x) := fun i x' e => by
  obtain ⟨y, h1, h2⟩ := h i x' e
  refine ⟨y, ?_, h2⟩
  rw [Array.getElem?_setIfInBounds_ne (fun z => by rw [← z, hg] at e; cases e)]; exact h1
theorem res_at (hg : Z g = none) (h : T[g]? = some st) : (resG Z T)[g]? = some st := by rw [res_get, h, hg]; rfl
theorem res_seen (h : PZ Z T) (e : T[g]? = some st) : ∃ st', (resG Z T)[g]? = some st' ∧ st'.seen = st.seen := by
  cases hz : Z g with
  | none => exact ⟨st, res_at hz e, rfl⟩
  | some x =>
    obtain ⟨y, h1, h2, _⟩ := h _ _ hz
    rw [e] at h1; cases h1
    exact ⟨x, by rw [res_get, e, hz]; rfl, h2.symm⟩
theorem nz_of (hp : PZ Z T) (q : T[g]? = some x) (hn : ¬ Stuck x) : Z g = none := by
  cases z : Z g with
  | none => rfl
  | some x => obtain ⟨y, e1, _, e2⟩ := hp _ _ z; rw [q] at e1; cases e1; exact absurd e2 hn
theorem GFr.push (h : GFr T) (hx : gfS x) : GFr (T.push x) := fun i y e => by
  rw [Array.getElem?_push] at e
  split at e
  · cases e; exact hx
  · exact h i y e
theorem GFr.set (h : GFr T) (hx : gfS x) : GFr (T.setIfInBounds g x) := fun i y e => by
  by_cases z : i = g
  · subst z
    rw [Array.getElem?_setIfInBounds_self] at e
    split at e
    · cases e; exact hx
    · cases e
  · rw [Array.getElem?_setIfInBounds_ne (Ne.symm z)] at e; exact h i y e
end
theorem no_unsup {M : Model} {Γ : PySem.Ctx} {p : Pos} {w : String} {fs : List Frame} {s s' : Shared} {e : End} (h : Runs M Γ p (.unsupported w) fs s e s') : False := by
  generalize ht : (Sem.unsupported w : Sem PySem.Fin) = t at h
  induction h <;> first | (cases ht; done) | (rename_i ih _; exact ih ht) | (rename_i ih; exact ih ht) | skip
  all_goals first | (rename_i ih; exact ih ht) | (rename_i a b ih c d; exact ih ht) | (rename_i a ih b c; exact ih ht) | skip

theorem gfS_end {e : End} (h : gfE e) : gfS e.genState := by cases e <;> first | exact trivial | exact h
theorem gfr_app {a b : List Frame} (h1 : gfr a) (h2 : gfr b) : gfr (a ++ b) := fun F hF => (List.mem_append.mp hF).elim (h1 F) (h2 F)
theorem gfr_nil : gfr [] := fun _ h => nomatch h
theorem gfr_one {k : Result → Sem PySem.Fin} {h : Option Value} {g : Bool} {l : List Value} {c : Code} {p : Pos} {kp : List Value} : gfr [.ret k h g l c p kp] := fun F hF => by
  rw [List.mem_singleton.mp hF]; exact fun _ _ _ _ _ z => by cases z
theorem runs_res {M : Model} {Γ : PySem.Ctx} {p : Pos} {t : Sem PySem.Fin} {fs : List Frame} {s s' : Shared} {e : End} (h : Runs M Γ p t fs s e s') :
    ∀ (Z : Nat → Option GenState), gfr fs → GFr s.gens → PZ Z s.gens → gfE e ∧ GFr s'.gens ∧ PZ Z s'.gens ∧ Runs M Γ p t fs (resS Z s) e (resS Z s') := by
  induction h with
  | done => exact fun Z _ hg hp => ⟨trivial, hg, hp, .done⟩
  | raise => exact fun Z _ hg hp => ⟨trivial, hg, hp, .raise⟩
  | again q _ ih => exact fun Z hf hg hp => let ⟨a, b, c, d⟩ := ih Z hf hg hp; ⟨a, b, c, .again q d⟩
  | rule _ ih => exact fun Z hf hg hp => let ⟨a, b, c, d⟩ := ih Z hf hg hp; ⟨a, b, c, .rule d⟩
  | «at» _ ih => exact fun Z hf hg hp => let ⟨a, b, c, d⟩ := ih Z hf hg hp; ⟨a, b, c, .at d⟩
  | load q _ ih => exact fun Z hf hg hp => let ⟨a, b, c, d⟩ := ih Z hf hg hp; ⟨a, b, c, .load q d⟩
  | update q _ ih => exact fun Z hf hg hp => let ⟨a, b, c, d⟩ := ih Z hf hg hp; ⟨a, b, c, .update q d⟩
  | loadIfAlive _ ih => exact fun Z hf hg hp => let ⟨a, b, c, d⟩ := ih Z hf hg hp; ⟨a, b, c, .loadIfAlive d⟩
  | point _ ih => exact fun Z hf hg hp => let ⟨a, b, c, d⟩ := ih Z hf hg hp; ⟨a, b, c, .point d⟩
  | alloc _ ih => exact fun Z hf hg hp => let ⟨a, b, c, d⟩ := ih Z hf hg hp; ⟨a, b, c, .alloc d⟩
  | fresh _ ih => exact fun Z hf hg hp => let ⟨a, b, c, d⟩ := ih Z hf hg hp; ⟨a, b, c, .fresh d⟩
  | ask _ ih => exact fun Z hf hg hp => let ⟨a, b, c, d⟩ := ih Z hf hg hp; ⟨a, b, c, .ask d⟩
  | choose q _ ih => exact fun Z hf hg hp => let ⟨a, b, c, d⟩ := ih Z hf hg hp; ⟨a, b, c, .choose q d⟩
  | os _ ih => exact fun Z hf hg hp => let ⟨a, b, c, d⟩ := ih Z hf hg hp; ⟨a, b, c, .os d⟩
  | handled _ ih => exact fun Z hf hg hp => let ⟨a, b, c, d⟩ := ih Z hf hg hp; ⟨a, b, c, .handled d⟩
  | stack _ ih => exact fun Z hf hg hp => let ⟨a, b, c, d⟩ := ih Z hf hg hp; ⟨a, b, c, .stack d⟩
  | thread _ ih => exact fun Z hf hg hp => let ⟨a, b, c, d⟩ := ih Z hf hg hp; ⟨a, b, c, .thread d⟩
  | genState q _ ih =>
    intro Z hf hg hp
    obtain ⟨a, b, c, d⟩ := ih Z hf hg hp
    obtain ⟨st', h1, h2⟩ := res_seen hp q
    exact ⟨a, b, c, .genState (s := resS Z _) h1 (by rw [h2]; exact d)⟩
  | newGen _ ih =>
    intro Z hf hg hp
    obtain ⟨a, b, c, d⟩ := ih Z hf (hg.push trivial) hp.push
    refine ⟨a, b, c, .newGen ?_⟩
    simp only [resS, res_size]
    simp only [resS, res_push hp] at d
    exact d
  | call _ _ ih1 ih2 =>
    intro Z hf hg hp
    obtain ⟨a, b, c, d⟩ := ih1 Z hf hg hp
    obtain ⟨a', b', c', d'⟩ := ih2 Z hf b c
    exact ⟨a', b', c', .call d d'⟩
  | callSusp _ ih =>
    intro Z hf hg hp
    obtain ⟨a, b, c, d⟩ := ih Z hf hg hp
    exact ⟨gfr_app a gfr_one, b, c, .callSusp d⟩
  | «yield» => exact fun Z hf hg hp => ⟨gfr_nil, hg, hp, .yield⟩
  | resumeFresh q _ qt _ ih1 ih2 =>
    intro Z hf hg hp
    rename_i Γ p g l k s c e₁ s₁ e s' h1 h2
    have hz : Z g = none := by
      cases z : Z g with
      | none => rfl
      | some x => obtain ⟨y, e1, _, _, _, _, _, _, e2⟩ := hp _ _ z; rw [q] at e1; cases e1; cases e2
    obtain ⟨a1, b1, c1, d1⟩ := ih1 Z gfr_nil (hg.set trivial) (hp.set hz)
    obtain ⟨a2, b2, c2, d2⟩ := ih2 Z hf (b1.set (gfS_end a1)) (c1.set hz)
    refine ⟨a2, b2, c2, .resumeFresh (s₁ := resS Z s₁) (res_at hz q) ?_ qt ?_⟩
    · simp only [resS, Shared.setGen, res_set hz] at d1 ⊢; exact d1
    · simp only [resS, Shared.setGen, res_set hz] at d2 ⊢; exact d2
  | resumeSuspended q _ qt _ ih1 ih2 =>
    intro Z hf hg hp
    rename_i Γ p g r l k s k₀ l₀ c₀ p₀ fs cl e₁ s₁ e s' h1 h2
    have hz : Z g = none := by
      cases z : Z g with
      | none => rfl
      | some x =>
        obtain ⟨y, e1, _, _, _, _, _, _, e2⟩ := hp _ _ z
        rw [q] at e1; cases e1; cases e2
        exact (no_unsup h1).elim
    obtain ⟨a1, b1, c1, d1⟩ := ih1 Z (hg _ _ q) (hg.set trivial) (hp.set hz)
    obtain ⟨a2, b2, c2, d2⟩ := ih2 Z hf (b1.set (gfS_end a1)) (c1.set hz)
    refine ⟨a2, b2, c2, .resumeSuspended (s₁ := resS Z s₁) (res_at hz q) ?_ qt ?_⟩
    · simp only [resS, Shared.setGen, res_set hz] at d1 ⊢; exact d1
    · simp only [resS, Shared.setGen, res_set hz] at d2 ⊢; exact d2
  | resumeJustStarted q ne _ ih =>
    intro Z hf hg hp
    have hz := nz_of hp q (by rintro ⟨_, _, _, _, _, z⟩; cases z)
    obtain ⟨a, b, c, d⟩ := ih Z hf hg hp
    exact ⟨a, b, c, .resumeJustStarted (res_at hz q) ne d⟩
  | resumeThrowFresh q _ ih =>
    intro Z hf hg hp
    have hz := nz_of hp q (by rintro ⟨_, _, _, _, _, z⟩; cases z)
    obtain ⟨a, b, c, d⟩ := ih Z hf (hg.set trivial) (hp.set hz)
    refine ⟨a, b, c, .resumeThrowFresh (res_at hz q) ?_⟩
    simp only [resS, Shared.setGen, res_set hz] at d ⊢; exact d
  | resumeRunning q _ ih =>
    intro Z hf hg hp
    have hz := nz_of hp q (by rintro ⟨_, _, _, _, _, z⟩; cases z)
    obtain ⟨a, b, c, d⟩ := ih Z hf hg hp
    exact ⟨a, b, c, .resumeRunning (res_at hz q) d⟩
  | resumeFinished q _ ih =>
    intro Z hf hg hp
    have hz := nz_of hp q (by rintro ⟨_, _, _, _, _, z⟩; cases z)
    obtain ⟨a, b, c, d⟩ := ih Z hf hg hp
    exact ⟨a, b, c, .resumeFinished (res_at hz q) d⟩
  | segRet _ _ ih1 ih2 =>
    intro Z hf hg hp
    obtain ⟨a, b, c, d⟩ := ih1 Z gfr_nil hg hp
    obtain ⟨a', b', c', d'⟩ := ih2 Z (fun F hF => hf F (List.mem_cons_of_mem _ hF)) b c
    exact ⟨a', b', c', .segRet d d'⟩
  | segGen _ _ _ _ => exact fun Z hf _ _ => absurd rfl (hf _ List.mem_cons_self _ _ _ _ _)
  | segSuspOut q _ ih =>
    intro Z hf hg hp
    obtain ⟨a, b, c, d⟩ := ih Z gfr_nil hg hp
    exact ⟨gfr_app a hf, b, c, .segSuspOut q d⟩
  | segSuspGen q _ _ _ _ _ => exact fun Z hf _ _ => by rw [gfr_split hf] at q; cases q

theorem wakes_res {M : Model} {Γ : PySem.Ctx} {p : Pos} {g : Nat} {r : Resume} {s s' : Shared} {res : GenResult} (h : Wakes M Γ p g r s res s') (Z : Nat → Option GenState) (hg : GFr s.gens) (hp : PZ Z s.gens) :
    GFr s'.gens ∧ PZ Z s'.gens ∧ Wakes M Γ p g r (resS Z s) res (resS Z s') := by
  unfold Wakes at h
  have nz : ∀ x, s.gens[g]? = some x → ¬ Stuck x → Z g = none := fun x q hn => by
    cases z : Z g with
    | none => rfl
    | some x => obtain ⟨y, e1, _, e2⟩ := hp _ _ z; rw [q] at e1; cases e1; exact absurd e2 hn
  split at h
  · exact h.elim
  · rename_i c q
    have hz := nz _ q (by rintro ⟨_, _, _, _, _, z⟩; cases z)
    split at h
    · obtain ⟨e₁, s₁, hr, qt, er, es⟩ := h
      subst er es
      obtain ⟨a1, b1, c1, d1⟩ := runs_res hr Z gfr_nil (hg.set trivial) (hp.set hz)
      refine ⟨b1.set (gfS_end a1), c1.set hz, ?_⟩
      unfold Wakes
      rw [show (resS Z s).gens[g]? = _ from res_at hz q]
      refine ⟨e₁, resS Z s₁, ?_, qt, rfl, ?_⟩
      · simp only [resS, Shared.setGen, res_set hz] at d1 ⊢; exact d1
      · simp only [resS, Shared.setGen, res_set hz]
    · obtain ⟨rfl, rfl⟩ := h
      refine ⟨hg, hp, ?_⟩
      rename_i v hv
      unfold Wakes
      rw [show (resS Z s').gens[g]? = _ from res_at hz q]
      cases v <;> first | exact ⟨rfl, rfl⟩ | exact absurd rfl hv
    · obtain ⟨rfl, rfl⟩ := h
      refine ⟨hg.set trivial, hp.set hz, ?_⟩
      unfold Wakes
      rw [show (resS Z s).gens[g]? = _ from res_at hz q]
      refine ⟨rfl, ?_⟩
      simp only [resS, Shared.setGen, res_set hz]
  · rename_i k₀ l₀ c₀ p₀ fs cl q
    obtain ⟨e₁, s₁, hr, qt, er, es⟩ := h
    subst er es
    have hz := nz _ q (by rintro ⟨_, _, _, _, _, z⟩; cases z; exact no_unsup hr)
    obtain ⟨a1, b1, c1, d1⟩ := runs_res hr Z (hg _ _ q) (hg.set trivial) (hp.set hz)
    refine ⟨b1.set (gfS_end a1), c1.set hz, ?_⟩
    unfold Wakes
    rw [show (resS Z s).gens[g]? = _ from res_at hz q]
    refine ⟨e₁, resS Z s₁, ?_, qt, rfl, ?_⟩
    · simp only [resS, Shared.setGen, res_set hz] at d1 ⊢; exact d1
    · simp only [resS, Shared.setGen, res_set hz]
  · rename_i q
    have hz := nz _ q (by rintro ⟨_, _, _, _, _, z⟩; cases z)
    obtain ⟨rfl, rfl⟩ := h
    refine ⟨hg, hp, ?_⟩
    unfold Wakes
    rw [show (resS Z _).gens[g]? = _ from res_at hz q]
    exact ⟨rfl, rfl⟩
  · rename_i q
    have hz := nz _ q (by rintro ⟨_, _, _, _, _, z⟩; cases z)
    obtain ⟨rfl, rfl⟩ := h
    refine ⟨hg, hp, ?_⟩
    unfold Wakes
    rw [show (resS Z _).gens[g]? = _ from res_at hz q]
    exact ⟨rfl, rfl⟩
/-- what stands behind a run that was told without those generators -/
def BackR (Z : Nat → Option GenState) (s' : Shared) (Q : Shared → Prop) : Prop := ∃ s1, s' = resS Z s1 ∧ GFr s1.gens ∧ PZ Z s1.gens ∧ Q s1
theorem wp_res {α : Type} (M : Model) (Γ : PySem.Ctx) (Z : Nat → Option GenState) (t : Sem α) : ∀ (Q : α → Pos → Shared → Prop) (E : Value → Pos → Shared → Prop) (p : Pos) (s : Shared), GFr s.gens → PZ Z s.gens → wp M Γ t Q E p s →
    wp M Γ t (fun a p' s' => BackR Z s' (Q a p')) (fun e p' s' => BackR Z s' (E e p')) p (resS Z s) := by
  induction t with
  | pure a => intro Q E p s hg hp h; exact ⟨s, rfl, hg, hp, h⟩
  | raise e => intro Q E p s hg hp h; exact ⟨s, rfl, hg, hp, h⟩
  | unsupported _ => intro Q E p s _ _ h; exact h
  | finish _ => intro Q E p s _ _ h; exact h
  | rule _ k ih => intro Q E p s hg hp h; exact ih () Q E p s hg hp h
  | «at» p' k ih => intro Q E p s hg hp h; exact ih () Q E p' s hg hp h
  | load a _ k ih => intro Q E p s hg hp h; obtain ⟨o, ho, h⟩ := h; exact ⟨o, ho, ih o Q E p s hg hp h⟩
  | update a _ f k ih => intro Q E p s hg hp h; exact ⟨h.1, ih () Q E p { s with heap := s.heap.update a f } hg hp h.2⟩
  | loadIfAlive a k ih => intro Q E p s hg hp h; exact ih _ Q E p s hg hp h
  | point _ k ih => intro Q E p s hg hp h; exact ih () Q E p s hg hp h
  | register _ _ => intro Q E p s _ _ h; exact h
  | alloc o k ih => intro Q E p s hg hp h; exact ih _ Q E p { s with heap := s.heap.push o } hg hp h
  | fresh k ih => intro Q E p s hg hp h; exact ih _ Q E p { s with toks := s.toks + 1 } hg hp h
  | ask k ih => intro Q E p s hg hp h; exact ih _ Q E p s hg hp h
  | choose src m k ih => intro Q E p s hg hp h; exact ⟨h.1, ih _ Q E p { s with drawn := s.drawn.bump src } hg hp h.2⟩
  | os q _ k ih => intro Q E p s hg hp h; exact ih _ Q E p { s with os := (Os.step s.os q).1 } hg hp h
  | call c hd _ _ k ih =>
    intro Q E p s hg hp h
    obtain ⟨r, s', hr, h⟩ := h
    obtain ⟨_, a, b, c⟩ := runs_res (show Runs _ _ _ _ _ _ _ _ from hr) Z gfr_nil hg hp
    exact ⟨r, resS Z s', c, ih r Q E p s' a b h⟩
  | handled own k ih => intro Q E p s hg hp h; exact ih _ Q E p s hg hp h
  | genState g k ih =>
    intro Q E p s hg hp h
    obtain ⟨st, hs, h⟩ := h
    obtain ⟨st', h1, h2⟩ := res_seen hp hs
    exact ⟨st', h1, by rw [h2]; exact ih st.seen Q E p s hg hp h⟩
  | newGen c k ih =>
    intro Q E p s hg hp h
    have := ih _ Q E p { s with gens := s.gens.push (.fresh c) } (hg.push trivial) hp.push h
    show wp M Γ (k (resS Z s).gens.size) _ _ p { resS Z s with gens := (resS Z s).gens.push (.fresh c) }
    simp only [resS, res_size]
    simp only [resS, res_push hp] at this
    exact this
  | resume g r _ k ih =>
    intro Q E p s hg hp h
    obtain ⟨res, s', hw, h⟩ := h
    obtain ⟨a, b, c⟩ := wakes_res hw Z hg hp
    exact ⟨res, resS Z s', c, ih res Q E p s' a b h⟩
  | yield _ _ _ _ => intro Q E p s _ _ h; exact h
  | stack k ih => intro Q E p s hg hp h; exact ih _ Q E p s hg hp h
  | fork _ _ => intro Q E p s _ _ h; exact h
  | thread k ih => intro Q E p s hg hp h; exact ih _ Q E p s hg hp h
  | await _ _ _ _ _ => intro Q E p s _ _ h; exact h
/-! ### the generators that stand, put to sleep -/
def sleepF (F : Frame) : Frame := .ret (fun _ => .unsupported "z") none false [] F.where_.1 F.where_.2 []
def sleep : GenState → GenState
  | .suspended _ l c p fs _ => .suspended (fun _ => .unsupported "z") l c p (fs.map sleepF) false
  | y => y
def isSusp : GenState → Bool
  | .suspended .. => true
  | _ => false
theorem sleep_bare {y : GenState} : (sleep y).bare = true := by cases y <;> rfl
theorem sleep_seen {y : GenState} : (sleep y).seen = y.seen := by
  cases y with
  | suspended k l c p fs cl =>
    show (GenStatus.suspended, some ((c, p) :: (fs.map sleepF).map Frame.where_)) = (GenStatus.suspended, some ((c, p) :: fs.map Frame.where_))
    rw [List.map_map]; rfl
  | _ => rfl
theorem sleep_gf {y : GenState} : gfS (sleep y) := by
  cases y with
  | suspended k l c p fs cl =>
    intro F hF
    obtain ⟨F', _, rfl⟩ := List.mem_map.mp hF
    exact fun _ _ _ _ _ z => by cases z
  | _ => exact trivial
/-- what is told of a state holds as well when those are put back -/
def Still (E : Value → Shared → Prop) : Prop := ∀ (Z : Nat → Option GenState) (e : Value) (s1 : Shared), (∀ i y, Z i = some y → y.bare = true) → GFr s1.gens → PZ Z s1.gens → E e s1 → E e (resS Z s1)
theorem still_no : Still (fun _ _ => False) := fun _ _ _ _ _ _ h => h.elim
theorem res_bare {Z : Nat → Option GenState} {T : Array GenState} (hz : ∀ i y, Z i = some y → y.bare = true) (hT : PyProof.Rows.AllBare T) : PyProof.Rows.AllBare (resG Z T) := fun y hy => by
  obtain ⟨i, hi⟩ := Array.getElem?_of_mem hy
  rw [res_get] at hi
  obtain ⟨y', h1, h2⟩ := Option.map_eq_some_iff.mp hi
  cases e : Z i with
  | none => rw [e] at h2; cases h2; exact hT _ (Array.mem_of_getElem? h1)
  | some x => rw [e] at h2; cases h2; exact hz _ _ e
theorem still_wp {M : Model} {A : Around} {f : Value → Sem Unit} {Q : Value → Shared → Prop} (hQ : Still Q) : Still (fun e s' => wpAny M A (f e) (fun _ s'' => Q e s'') (fun _ _ => False) s') := fun Z e s1 hz hg hp h Γ p hΓ =>
  Sem.wp_mono M Γ (f e) (fun _ _ _ ⟨s2, e2, g2, p2, q2⟩ => by subst e2; exact hQ Z e s2 hz g2 p2 q2) (fun _ _ _ ⟨_, _, _, _, q2⟩ => q2.elim) p _ (wp_res M Γ Z (f e) _ _ p s1 hg hp (h Γ p hΓ))
/-- what a run brings about that is told of any table of bare generators: those that stand stay as they are -/
theorem wpAny_still {α : Type} {M : Model} {A : Around} {s : Shared} {t : Sem α} {Q Q1 : α → Shared → Prop} {E : Value → Shared → Prop} (hb : PyProof.Rows.AllBare s.gens) (hE : Still E)
    (h : ∀ T : Array GenState, PyProof.Rows.AllBare T → GFr T → wpAny M A t Q1 E { s with gens := T })
    (hQ : ∀ a s1 T', Q1 a s1 → (∀ (i : Nat) (y : GenState), s.gens[i]? = some y → isSusp y = true → T'[i]? = some y) → (PyProof.Rows.AllBare s1.gens → PyProof.Rows.AllBare T') → T'.size = s1.gens.size → Q a { s1 with gens := T' }) : wpAny M A t Q E s := by
  intro Γ p hΓ
  let Z : Nat → Option GenState := fun i => match s.gens[i]? with | some y => if isSusp y then some y else none | none => none
  have zs : ∀ i y, Z i = some y → s.gens[i]? = some y ∧ isSusp y = true := fun i y e => by
    show _ ∧ _
    simp only [Z] at e
    split at e
    · rename_i z hz
      split at e
      · cases e; exact ⟨hz, by assumption⟩
      · cases e
    · cases e
  have zo : ∀ i y, s.gens[i]? = some y → isSusp y = true → Z i = some y := fun i y e e2 => by simp only [Z, e, e2, if_true]
  have zb : ∀ i y, Z i = some y → y.bare = true := fun i y e => hb _ (Array.mem_of_getElem? (zs i y e).1)
  have hT : PyProof.Rows.AllBare (s.gens.map sleep) := fun y hy => by
    obtain ⟨y', _, rfl⟩ := Array.mem_map.mp hy
    exact sleep_bare
  have hg : GFr (s.gens.map sleep) := fun i x e => by
    rw [Array.getElem?_map] at e
    obtain ⟨y, _, rfl⟩ := Option.map_eq_some_iff.mp e
    exact sleep_gf
  have hp : PZ Z (s.gens.map sleep) := fun i x e => by
    obtain ⟨e1, e2⟩ := zs i x e
    refine ⟨sleep x, by rw [Array.getElem?_map, e1]; rfl, sleep_seen, ?_⟩
    cases x with
    | suspended k l c p fs cl => exact ⟨_, _, _, _, _, rfl⟩
    | _ => cases e2
  have back : resS Z { s with gens := s.gens.map sleep } = s := by
    show { s with gens := _ } = s
    have : resG Z (s.gens.map sleep) = s.gens := by
      apply Array.ext_getElem?
      intro i
      rw [res_get, Array.getElem?_map]
      cases e : s.gens[i]? with
      | none => rfl
      | some y =>
        cases e2 : isSusp y with
        | true => rw [zo i y e e2]; rfl
        | false =>
          have : Z i = none := by simp only [Z, e, e2]; rfl
          rw [this]
          cases y <;> first | rfl | cases e2
    rw [this]
  have r := wp_res M Γ Z t _ _ p { s with gens := s.gens.map sleep } hg hp (h _ hT hg Γ p hΓ)
  rw [back] at r
  refine Sem.wp_mono M Γ t (fun a _ s' hr => ?_) (fun e _ s' hr => ?_) p s r
  · obtain ⟨s1, rfl, _, hp1, hr⟩ := hr
    refine hQ a s1 (resG Z s1.gens) hr (fun i y e e2 => ?_) (fun k => res_bare zb k) res_size
    obtain ⟨y', h1, _⟩ := hp1 i y (zo i y e e2)
    rw [res_get, h1, zo i y e e2]; rfl
  · obtain ⟨s1, rfl, hg1, hp1, hr⟩ := hr
    exact hE Z e s1 zb hg1 hp1 hr
theorem res_none {T : Array GenState} : resG (fun _ => none) T = T := by
  apply Array.ext_getElem?
  intro i
  rw [res_get]
  cases T[i]? <;> rfl
theorem resS_none {s : Shared} : resS (fun _ => none) s = s := by
  show { s with gens := _ } = s
  rw [res_none]
/-- the frames of the generators stay plain -/
theorem wpAny_gf {α : Type} {M : Model} {A : Around} {s : Shared} {t : Sem α} {Q : α → Shared → Prop} {E : Value → Shared → Prop} (hg : GFr s.gens)
    (h : wpAny M A t (fun a s' => GFr s'.gens → Q a s') (fun e s' => GFr s'.gens → E e s') s) : wpAny M A t Q E s := by
  intro Γ p hΓ
  have r := wp_res M Γ (fun _ => none) t _ _ p s hg (fun i x e => (nomatch e)) (h Γ p hΓ)
  rw [resS_none] at r
  refine Sem.wp_mono M Γ t (fun a _ s' hr => ?_) (fun e _ s' hr => ?_) p s r
  · obtain ⟨s1, rfl, hg1, _, hr⟩ := hr
    rw [resS_none]; exact hr hg1
  · obtain ⟨s1, rfl, hg1, _, hr⟩ := hr
    rw [resS_none]; exact hr hg1
/-! ### a waking that hands something out leaves a generator that stands -/
theorem resume_s {M : Model} {A : Around} {R : GenEnd} {Y : Protocol} {n : Nat} {E : Value → Shared → Prop} {s : Shared} {g : Nat} {gs : GenState} {r : Resume} {l : List Value} {α : Type} {k : GenResult → Sem α} {Q : α → Shared → Prop} (hg : s.gens[g]? = some gs) (hgo : gs.Goes M A R Y n r (s.setGen g .running))
    (hR : ∀ x s₁, R n (s.setGen g .running) x s₁ → wpAny M A (k (End.ret x).result) Q E (s₁.setGen g .finished))
    (hY : ∀ v s₁ gs', gs'.bare = true → isSusp gs' = true → Y (n - 1) (s.setGen g .running) v s₁ (fun r' s'' => match (generalizing := false) n with | 0 => False | m + 1 => gs'.Goes M A R Y m r' s'') → wpAny M A (k (.yielded v)) Q E (s₁.setGen g gs')) :
    wpAny M A (.resume g r l k) Q E s := by
  have h0 : wpAny M A (.resume g r l .pure) (fun res s' => (∃ x s₁, res = (End.ret x).result ∧ s' = s₁.setGen g .finished ∧ R n (s.setGen g .running) x s₁) ∨
      ∃ v s₁ gs', res = .yielded v ∧ s' = s₁.setGen g gs' ∧ gs'.bare = true ∧ Y (n - 1) (s.setGen g .running) v s₁ (fun r' s'' => match (generalizing := false) n with | 0 => False | m + 1 => gs'.Goes M A R Y m r' s'')) (fun _ _ => False) s :=
    PySem.wpAny_resumeQ hg hgo (fun x s₁ hx => wpAny_pure (.inl ⟨x, s₁, rfl, rfl, hx⟩)) fun v s₁ gs' hb hv => wpAny_pure (.inr ⟨v, s₁, gs', rfl, rfl, hb, hv⟩)
  intro Γ p hΓ
  have h1 := h0 Γ p hΓ
  rw [Sem.wp_resume] at h1 ⊢
  obtain ⟨res, s', hw, hq⟩ := h1
  refine ⟨res, s', hw, ?_⟩
  have hq := (show _ ∨ _ from hq)
  rcases hq with ⟨x, s₁, rfl, rfl, hx⟩ | ⟨v, s₁, gs', rfl, rfl, hb, hv⟩
  · exact hR x s₁ hx Γ p hΓ
  · refine hY v s₁ gs' hb ?_ hv Γ p hΓ
    have key : ∀ (e₁ : End) (s₂ : Shared), g < s₂.gens.size → GenResult.yielded v = e₁.result → s₁.setGen g gs' = s₂.setGen g e₁.genState → isSusp gs' = true := by
      intro e₁ s₂ hlt he hs
      have h2 : (s₁.setGen g gs').gens[g]? = some e₁.genState := by
        rw [hs]; show (s₂.gens.setIfInBounds g _)[g]? = _
        rw [Array.getElem?_setIfInBounds_self, if_pos hlt]
      have h3 : (s₁.gens.setIfInBounds g gs')[g]? = some e₁.genState := h2
      rw [Array.getElem?_setIfInBounds_self] at h3
      split at h3
      · cases h3
        cases e₁ with
        | ret r1 => cases r1 <;> cases he
        | susp => rfl
      · cases h3
    have hlt : g < s.gens.size := (Array.getElem?_eq_some_iff.mp hg).1
    unfold Wakes at hw
    rw [hg] at hw
    cases gs with
    | fresh c =>
      obtain ⟨rfl, _⟩ := hgo
      obtain ⟨e₁, s₂, hr, _, h5, h6⟩ := hw
      have := GenW.runs_gsz hr
      rw [GenW.setGen_size] at this
      exact key e₁ s₂ (Nat.lt_of_lt_of_le hlt this) h5 h6
    | suspended k₀ l₀ c₀ p₀ fs₀ cl =>
      obtain ⟨e₁, s₂, hr, _, h5, h6⟩ := hw
      have := GenW.runs_gsz hr
      rw [GenW.setGen_size] at this
      exact key e₁ s₂ (Nat.lt_of_lt_of_le hlt this) h5 h6
    | running => exact hgo.elim
    | finished => exact hgo.elim
end Mp

/-! OY: a generator's body: what it hands out, statement by statement. -/
namespace Mp
open PySem PySem.Spec L2
open PyProof.Rows hiding St
open GenW
variable {J : Type}
/-- what the consumer promises and wants. W: its record of a waking (what was handed out ahead of it, the state that the frame is based at, the heap there); yl: an item is handed out (all so far, and what follows if it is woken again); dn: the end; xc: an exception -/
structure YDt (J : Type) where
  yl : List D → J → (J → Prop) → Prop
  dn : List D → J → Prop
  xc : List D → Ex → J → Prop
structure YCx (J : Type) extends YDt J where
  W : List D → Shared → Bs → Prop
def EW (S : Js J) (C : YCx J) (ds : List D) (B : Bs) : XK := fun cls d H' => ∃ e j' F' A', C.xc ds e j' ∧ FPost S B.F0 B.A0 B.H0 F' A' H' j' ∧ ExR S F' e cls d
def M0 : Nat → Bool := fun _ => false
theorem okb_post {S : Js J} {B : Bs} {g : Gh} {H : Hp} {j : J} (ok : OkB S B g H j) : FPost S B.F0 B.A0 B.H0 g.G g.A H j :=
  ⟨ok.f0.trans ok.fg, ok.gh, ok.ga, S.frame ok.jr ok.fg fun _ _ => rfl, ok.h0, ok.g0, ok.a0, ok.h1, ok.sm⟩
/-- generators that sleep meanwhile: their numbers, their states -/
abbrev Gp := List (Nat × GenState)
def GK (G : GP) (gp : Gp) (T : Array GenState) : Prop := ∀ p ∈ gp, T[p.1]? = some p.2 ∧ isSusp p.2 = true ∧ G.gn < p.1
/-- the generator runs -/
structure GAt (G : GP) (S : Js J) (C : YCx J) (ds : List D) (s0 : Shared) (B : Bs) (pins : List (Addr × Obj)) (gp : Gp) (σ : St) (g : Gh) (H : Hp) (m : Sd) (j : J) (s : Shared) : Prop where
  wr : C.W ds s0 B
  sz : s0.heap.objs.size = G.L
  inv : Inv (G.cx s0 B.H0 (EW S C ds B)) pins σ H s
  ok : Ok S B g M0 σ H m j
  own : G.gn < s.gens.size
  gk : GK G gp s.gens
  gf : GFr s.gens
/-- it is woken -/
structure GWake (G : GP) (S : Js J) (pins : List (Addr × Obj)) (gp : Gp) (s : Shared) (g : Gh) (s1 : Shared) (B1 : Bs) (j1 : J) : Prop where
  e0 : Env0 G.P G.w G.K G.mg G.base G.A G.outer s1 B1.H0
  loc : ∀ o, s.heap.get? G.L = some o → s1.heap.get? G.L = some o
  nL : B1.H0 G.L = none
  pin : ∀ p ∈ G.pn ++ pins, s1.heap.get? p.1 = some p.2 ∧ B1.H0 p.1 = none
  sub : Same g.F B1.F0
  fh : Same B1.F0 B1.H0
  fa : ∀ b o, B1.F0 b = some o → ¬ B1.A0 b
  jr : S.rep j1 B1.F0 B1.A0 B1.H0
  sm : ∃ o u, B1.H0 sysModules = some (.frz o u)
  own : G.gn < s1.gens.size
  gk : GK G gp s1.gens
  gf : GFr s1.gens
theorem slots_clean {S : Js J} {g g' : Gh} {r : St} {m : Sd} (h : Slots S g M0 r m) (l : Same g.F g'.F) : Slots S g' M0 r m :=
  ⟨h.len, fun i d e q => let ⟨v, h1, h2⟩ := h.fr i d e q; ⟨v, h1, h2.mono l⟩, fun i d e q => (nomatch q), fun i k a d e _ _ q => (nomatch q)⟩
theorem GAt.cutsz {G : GP} {S : Js J} {C : YCx J} {ds : List D} {s0 : Shared} {B B1 : Bs} {pins : List (Addr × Obj)} {gp : Gp} {σ : St} {g : Gh} {H : Hp} {m : Sd} {j j1 : J} {s s1 : Shared} (a : GAt G S C ds s0 B pins gp σ g H m j s) (k : GWake G S pins gp s g s1 B1 j1) : (cutS s1 G.L).heap.objs.size = G.L := by
  obtain ⟨_, ⟨oL, _, _, hoL, _⟩, _⟩ := a.inv.loc
  exact cut_size (Nat.le_of_lt (Heap.lt_size (k.loc oL hoL)))
theorem GAt.woken {G : GP} {S : Js J} {C : YCx J} (gd : G.Good) {ds ds1 : List D} {s0 : Shared} {B B1 : Bs} {pins : List (Addr × Obj)} {gp : Gp} {σ : St} {g : Gh} {H : Hp} {m : Sd} {j j1 : J} {s s1 : Shared} (a : GAt G S C ds s0 B pins gp σ g H m j s) (k : GWake G S pins gp s g s1 B1 j1) (w : C.W ds1 (cutS s1 G.L) B1) :
    GAt G S C ds1 (cutS s1 G.L) B1 pins gp σ ⟨B1.F0, B1.F0, B1.A0⟩ B1.H0 m j1 s1 :=
  ⟨w, a.cutsz k, inv_wake gd a.inv k.e0 k.loc k.nL k.pin, ⟨⟨Same.refl _, k.fh, k.fa, k.jr, Same.refl _, fun b o e => .inl e, fun b z => .inl z, fun b o e _ => e, fun b e => e, k.sm⟩, slots_clean a.ok.s k.sub⟩, k.own, k.gk, k.gf⟩
def YP (G : GP) (S : Js J) (C : YCx J) : Protocol := fun n s₀ v s kap => ∃ ds d j k s0 B pins gp σ g H m vv, (n + 1 + ds.length = sizeLine ∧ ds.length < LINE) ∧ RelV vv v ∧ Rp S g.F d vv ∧ GAt G S C ds s0 B pins gp σ g H m j s ∧ C.yl (ds ++ [d]) j k ∧
  ∀ s1 B1 j1, GWake G S pins gp s g s1 B1 j1 → C.W (ds ++ [d]) (cutS s1 G.L) B1 → k j1 → kap (.send .none) s1
def YR (G : GP) (S : Js J) (C : YCx J) : GenEnd := fun n s₀ r s => ((r = .ok (.ret .none) ∨ r = .ok .next) ∧ ∃ ds s0 B pins gp σ g H m j, GAt G S C ds s0 B pins gp σ g H m j s ∧ C.dn ds j ∧ n + ds.length = sizeLine) ∨
  ∃ e, r = .error e ∧ ∃ ds s0 B, C.W ds s0 B ∧ CX G.P G.w G.outer B.H0 s0 (EW S C ds B) e s ∧ ∀ p ∈ G.pn, s.heap.get? p.1 = some p.2
/-- where its code stands -/
structure YCd (G : GP) (c : Code) (fs : List Frame) (gd : Bool → Bool) : Prop where
  over : G.A.over c fs = G.A.deeper G.env
  split : splitAtGen fs = none
  guard : fs.any Frame.guarded = false
  gd : gd false = false
/-- what follows -/
structure YK (G : GP) (S : Js J) (C : YCx J) (nx : Sd → List D → J → Prop) (Fb : Hp) (pins : List (Addr × Obj)) (gp : Gp) (R : GenEnd) (c : Code) (fs : List Frame) (Kf : Flow → Sem PySem.Fin) (Jf : Value → Sem PySem.Fin) : Prop where
  ok : ∀ (n : Nat) (ds : List D) (s₀ s s0 : Shared) (B : Bs) (σ : St) (g : Gh) (H : Hp) (m : Sd) (j : J), n + ds.length = sizeLine → GAt G S C ds s0 B pins gp σ g H m j s → Same Fb g.F → nx m ds j → Seg (model G.P G.w) G.A R (YP G S C) n s₀ c (Kf .next) fs s
  exc : ∀ (n : Nat) (ds : List D) (s₀ s s0 : Shared) (B : Bs) (e : Value), C.W ds s0 B → (G.cx s0 B.H0 (EW S C ds B)).xe e s → Seg (model G.P G.w) G.A R (YP G S C) n s₀ c (Jf e) fs s
abbrev Yv (J : Type) := YDt J → (Sd → List D → J → Prop) → Sd → List D → J → Prop
structure YS (G : GP) (S : Js J) (st : Stmt) (y : Yv J) : Prop where
  run : ∀ (C : YCx J) (nx : Sd → List D → J → Prop) (Fb : Hp) (R : GenEnd) (n : Nat) (ds : List D) (s₀ : Shared) (c : Code) (fs : List Frame) (Kf : Flow → Sem PySem.Fin) (Jf : Value → Sem PySem.Fin) (gd : Bool → Bool) (lv : List Value → List Value) (s s0 : Shared) (B : Bs) (pins : List (Addr × Obj)) (gp : Gp) (σ : St) (g : Gh) (H : Hp) (m : Sd) (j : J),
    YCd G c fs gd → n + ds.length = sizeLine → YK G S C nx Fb pins gp R c fs Kf Jf → GAt G S C ds s0 B pins gp σ g H m j s → Same Fb g.F → y C.toYDt nx m ds j → Seg (model G.P G.w) G.A R (YP G S C) n s₀ c ((exec st G.env).wrap Kf Jf gd lv) fs s
structure YSs (G : GP) (S : Js J) (st : List Stmt) (y : Yv J) : Prop where
  run : ∀ (C : YCx J) (nx : Sd → List D → J → Prop) (Fb : Hp) (R : GenEnd) (n : Nat) (ds : List D) (s₀ : Shared) (c : Code) (fs : List Frame) (Kf : Flow → Sem PySem.Fin) (Jf : Value → Sem PySem.Fin) (gd : Bool → Bool) (lv : List Value → List Value) (s s0 : Shared) (B : Bs) (pins : List (Addr × Obj)) (gp : Gp) (σ : St) (g : Gh) (H : Hp) (m : Sd) (j : J),
    YCd G c fs gd → n + ds.length = sizeLine → YK G S C nx Fb pins gp R c fs Kf Jf → GAt G S C ds s0 B pins gp σ g H m j s → Same Fb g.F → y C.toYDt nx m ds j → Seg (model G.P G.w) G.A R (YP G S C) n s₀ c ((execs st G.env).wrap Kf Jf gd lv) fs s
/-! ### closures -/
def yNil : Yv J := fun C nx m ds j => nx m ds j
def ySeq (y1 y2 : Yv J) : Yv J := fun C nx m ds j => y1 C (fun m1 ds1 j1 => y2 C nx m1 ds1 j1) m ds j
def plainP (nx : Sd → List D → J → Prop) (ds : List D) : Fl → Sd → J → Prop
  | .next, m, j => nx m ds j
  | .brk, _, _ => False
  | .cnt, _, _ => False
  | .ret _, _, _ => False
def yPl (f : Sv J) : Yv J := fun C nx m ds j => f m j (plainP nx ds) (fun e _ j' => C.xc ds e j')
def yYl (fe : Ev J) : Yv J := fun C nx m ds j => ds.length < LINE ∧ fe m j (fun d j1 => C.yl (ds ++ [d]) j1 (fun j2 => nx m (ds ++ [d]) j2)) (fun e _ j' => C.xc ds e j')
def yW (tc : Tv J) (yb : Yv J) (C : YDt J) (nx : Sd → List D → J → Prop) : Nat → Sd → List D → J → Prop
  | 0, _, _, _ => False
  | n + 1, m, ds, j => tc m j (fun b j1 => if b = true then yb C (fun m2 ds2 j2 => yW tc yb C nx n m2 ds2 j2) m ds j1 else nx m ds j1) (fun e _ j' => C.xc ds e j')
def yWhile (tc : Tv J) (yb : Yv J) : Yv J := fun C nx m ds j => ∃ n, yW tc yb C nx n m ds j
class MoY (y : Yv J) : Prop where
  mo : ∀ {C C' : YDt J} {nx nx' : Sd → List D → J → Prop} {m : Sd} {ds : List D} {j : J}, y C nx m ds j → (∀ ds j k k', (∀ j', k j' → k' j') → C.yl ds j k → C'.yl ds j k') → (∀ ds e j, C.xc ds e j → C'.xc ds e j) → (∀ m ds j, nx m ds j → nx' m ds j) → y C' nx' m ds j
instance : MoY (yNil (J := J)) := ⟨fun h _ _ q => q _ _ _ h⟩
instance {y1 y2 : Yv J} [h1 : MoY y1] [h2 : MoY y2] : MoY (ySeq y1 y2) := ⟨fun h a b q => h1.mo h a b fun _ _ _ p => h2.mo p a b q⟩
theorem plainP_mo {nx nx' : Sd → List D → J → Prop} {ds : List D} (q : ∀ m ds j, nx m ds j → nx' m ds j) : ∀ l m j, plainP nx ds l m j → plainP nx' ds l m j
  | .next, _, _, h => q _ _ _ h
instance {f : Sv J} [h1 : MoS f] : MoY (yPl f) := ⟨fun h a b q => h1.mo h (plainP_mo q) fun _ _ _ => b _ _ _⟩
instance {fe : Ev J} [h1 : MoE fe] : MoY (yYl fe) := ⟨fun ⟨l, h⟩ a b q => ⟨l, h1.mo h (fun _ _ p => a _ _ _ _ (fun _ => q _ _ _) p) fun _ _ _ => b _ _ _⟩⟩
theorem yW_mo {tc : Tv J} {yb : Yv J} [hc : MoT tc] [hb : MoY yb] {C C' : YDt J} {nx nx' : Sd → List D → J → Prop} (a : ∀ ds j k k', (∀ j', k j' → k' j') → C.yl ds j k → C'.yl ds j k') (b : ∀ ds e j, C.xc ds e j → C'.xc ds e j) (q : ∀ m ds j, nx m ds j → nx' m ds j) :
    ∀ {n : Nat} {m : Sd} {ds : List D} {j : J}, yW tc yb C nx n m ds j → yW tc yb C' nx' n m ds j
  | 0, _, _, _, h => h.elim
  | n + 1, _, _, _, h => hc.mo h (fun _ _ p => ite_mono p (fun p => hb.mo p a b fun _ _ _ p => yW_mo a b q p) (q _ _ _)) fun _ _ _ => b _ _ _
instance {tc : Tv J} {yb : Yv J} [hc : MoT tc] [hb : MoY yb] : MoY (yWhile tc yb) := ⟨fun ⟨n, h⟩ a b q => ⟨n, yW_mo a b q h⟩⟩
/-! ### rules -/
section
variable {G : GP} {S : Js J} {st : Stmt} {rest body : List Stmt} {y y' yb : Yv J} {f : Sv J} {fe : Ev J} {e test : Expr} {pos yp : Pos} {tc : Tv J}
theorem xoutW {C : YCx J} {ds : List D} {B : Bs} {g : Gh} : XOut S B M0 (WD (EW S C ds B)) g (fun e _ j' => C.xc ds e j') := fun ex m' j' g' r' H' cls dx h l ok er => ⟨ex, j', g'.G, g'.A, h, okb_post ok.b, er.mono ok.b.fg⟩
theorem still_cxO {P : Program} {w : World} {outer : List Env} {H : Hp} {s0 : Shared} {E : XK} : Still (fun e s'' => CX P w outer H s0 E e s'') := fun Z e s1 hz _ _ ⟨a, B, H', cls, d, z1, fl, z2, ub, z3, z4, z5, z6⟩ =>
  ⟨a, B, H', cls, d, z1, fl, z2, ub, z3, z4, res_bare hz z5, z6⟩
theorem stillX {s0 : Shared} {H0 : Hp} {E : XK} : Still (G.cx s0 H0 E).xe :=
  still_wp (Q := fun e s'' => CX G.P G.w G.outer H0 s0 E e s'' ∧ ∀ p ∈ G.pn, s''.heap.get? p.1 = some p.2) fun Z e s1 hz hg hp ⟨h1, h2⟩ => ⟨still_cxO Z e s1 hz hg hp h1, h2⟩
/-- a state in which those that sleep are out of use for a while -/
structure Pz (G : GP) (gp : Gp) (Z : Nat → Option GenState) (s1 : Shared) : Prop where
  hz : ∀ i y, Z i = some y → y.bare = true
  hg : GFr s1.gens
  hp : PZ Z s1.gens
  own : G.gn < s1.gens.size
  gz : ∀ p ∈ gp, Z p.1 = some p.2 ∧ isSusp p.2 = true ∧ G.gn < p.1
  zf : ∀ i y, Z i = some y → gfS y
theorem Pz.start {gp : Gp} {s : Shared} (hb : PyProof.Rows.AllBare s.gens) (own : G.gn < s.gens.size) (gk : GK G gp s.gens) (gf : GFr s.gens) : ∃ Z T, Pz G gp Z { s with gens := T } ∧ resS Z { s with gens := T } = s ∧ PyProof.Rows.AllBare T := by
  let Z : Nat → Option GenState := fun i => match s.gens[i]? with | some y => if isSusp y then some y else none | none => none
  have zs : ∀ i y, Z i = some y → s.gens[i]? = some y ∧ isSusp y = true := fun i y e => by
    show _ ∧ _
    simp only [Z] at e
    split at e
    · rename_i z hz
      split at e
      · cases e; exact ⟨hz, by assumption⟩
      · cases e
    · cases e
  have zo : ∀ i y, s.gens[i]? = some y → isSusp y = true → Z i = some y := fun i y e e2 => by simp only [Z, e, e2, if_true]
  have zb : ∀ i y, Z i = some y → y.bare = true := fun i y e => hb _ (Array.mem_of_getElem? (zs i y e).1)
  have hT : PyProof.Rows.AllBare (s.gens.map sleep) := fun y hy => by
    obtain ⟨y', _, rfl⟩ := Array.mem_map.mp hy
    exact sleep_bare
  have hg : GFr (s.gens.map sleep) := fun i x e => by
    rw [Array.getElem?_map] at e
    obtain ⟨y, _, rfl⟩ := Option.map_eq_some_iff.mp e
    exact sleep_gf
  have hp : PZ Z (s.gens.map sleep) := fun i x e => by
    obtain ⟨e1, e2⟩ := zs i x e
    refine ⟨sleep x, by rw [Array.getElem?_map, e1]; rfl, sleep_seen, ?_⟩
    cases x with
    | suspended k l c p fs cl => exact ⟨_, _, _, _, _, rfl⟩
    | _ => cases e2
  have back : resS Z { s with gens := s.gens.map sleep } = s := by
    show { s with gens := _ } = s
    have : resG Z (s.gens.map sleep) = s.gens := by
      apply Array.ext_getElem?
      intro i
      rw [res_get, Array.getElem?_map]
      cases e : s.gens[i]? with
      | none => rfl
      | some y =>
        cases e2 : isSusp y with
        | true => rw [zo i y e e2]; rfl
        | false =>
          have : Z i = none := by simp only [Z, e, e2]; rfl
          rw [this]
          cases y <;> first | rfl | cases e2
    rw [this]
  exact ⟨Z, _, ⟨zb, hg, hp, by show G.gn < (s.gens.map sleep).size; rw [Array.size_map]; exact own, fun p hq => ⟨zo _ _ (gk p hq).1 (gk p hq).2.1, (gk p hq).2⟩, fun i y e => gf _ _ (zs i y e).1⟩, back, hT⟩
theorem Pz.gk {gp : Gp} {Z : Nat → Option GenState} {s1 : Shared} (p : Pz G gp Z s1) : GK G gp (resS Z s1).gens := fun q hq => by
  obtain ⟨z1, z2, z3⟩ := p.gz q hq
  obtain ⟨y, h1, _⟩ := p.hp _ _ z1
  refine ⟨?_, z2, z3⟩
  show (resG Z s1.gens)[q.1]? = _
  rw [res_get, h1, z1]; rfl
theorem Pz.own' {gp : Gp} {Z : Nat → Option GenState} {s1 : Shared} (p : Pz G gp Z s1) : G.gn < (resS Z s1).gens.size := by
  show G.gn < (resG Z s1.gens).size
  rw [res_size]; exact p.own
theorem Pz.gf {gp : Gp} {Z : Nat → Option GenState} {s1 : Shared} (p : Pz G gp Z s1) : GFr (resS Z s1).gens := fun i x e => by
  have e : (resG Z s1.gens)[i]? = some x := e
  rw [res_get] at e
  obtain ⟨y', h1, h2⟩ := Option.map_eq_some_iff.mp e
  cases ez : Z i with
  | none => rw [ez] at h2; cases h2; exact p.hg _ _ h1
  | some z => rw [ez] at h2; cases h2; exact p.zf _ _ ez
theorem Pz.inv {gp : Gp} {Z : Nat → Option GenState} {s1 : Shared} (p : Pz G gp Z s1) {X : Cx} {pins : List (Addr × Obj)} {σ : St} {H : Hp} (I : Inv X pins σ H s1) : Inv X pins σ H (resS Z s1) :=
  I.call' (s' := resS Z s1) (ch := []) rfl Un.refl I.hok (res_bare p.hz I.bare) fun b z => by simp at z
theorem Pz.go {gp : Gp} {Z : Nat → Option GenState} {s1 : Shared} (p : Pz G gp Z s1) {α : Type} {M : Model} {A : Around} {t : Sem α} {Q1 Q : α → Shared → Prop} {E : Value → Shared → Prop} (hE : Still E) (h : wpAny M A t Q1 E s1) (q : ∀ a s2, Pz G gp Z s2 → Q1 a s2 → Q a (resS Z s2)) : wpAny M A t Q E (resS Z s1) := by
  intro Γ p1 hΓ
  have h2 := wpAny_gsz (n := G.gn + 1) p.own (wpAny_mono (Q' := fun a s' => G.gn + 1 ≤ s'.gens.size → Q1 a s' ∧ G.gn + 1 ≤ s'.gens.size) (E' := fun e s' => G.gn + 1 ≤ s'.gens.size → E e s') h (fun _ _ z w => ⟨z, w⟩) fun _ _ z _ => z)
  have r := wp_res M Γ Z t _ _ p1 s1 p.hg p.hp (h2 Γ p1 hΓ)
  refine Sem.wp_mono M Γ t (fun a _ s' hr => ?_) (fun e _ s' hr => ?_) p1 _ r
  · obtain ⟨s2, rfl, hg2, hp2, hr, ho⟩ := hr
    exact q a s2 ⟨p.hz, hg2, hp2, ho, p.gz, p.zf⟩ hr
  · obtain ⟨s2, rfl, hg2, hp2, hr⟩ := hr
    exact hE Z e s2 p.hz hg2 hp2 hr
/-- a run in one piece -/
theorem keepG {gp : Gp} {X : Cx} {pins : List (Addr × Obj)} {σ : St} {H : Hp} {s : Shared} (I : Inv X pins σ H s) (own : G.gn < s.gens.size) (gk : GK G gp s.gens) (gf : GFr s.gens) {α : Type} {M : Model} {A : Around} {t : Sem α} {Q1 Q : α → Shared → Prop} {E : Value → Shared → Prop} (hE : Still E)
    (h : ∀ s', s'.heap = s.heap → Inv X pins σ H s' → wpAny M A t Q1 E s') (q : ∀ Z x s1, Pz G gp Z s1 → Q1 x s1 → Q x (resS Z s1)) : wpAny M A t Q E s := by
  obtain ⟨Z, T, p, e, hT⟩ := Pz.start I.bare own gk gf
  have h1 := h { s with gens := T } rfl (I.call' (s' := { s with gens := T }) (ch := []) rfl Un.refl I.hok hT fun b z => by simp at z)
  have h2 := p.go hE h1 (q Z)
  rw [e] at h2
  exact h2
theorem ys_nil : YSs G S [] yNil := ⟨fun C nx Fb R n ds s₀ c fs Kf Jf gd lv s s0 B pins gp σ g H m j cd hn k a fb h => seg_execs_nil (k.ok n ds s₀ s s0 B σ g H m j hn a fb h)⟩
theorem ys_cons (h1 : YS G S st y) (h2 : YSs G S rest y') : YSs G S (st :: rest) (ySeq y y') := by
  refine ⟨fun C nx Fb R n ds s₀ c fs Kf Jf gd lv s s0 B pins gp σ g H m j cd hn k a fb h => seg_execs_cons ?_⟩
  exact h1.run C _ Fb R n ds s₀ c fs _ Jf gd lv s s0 B pins gp σ g H m j cd hn ⟨fun n2 ds2 s2 s3 s02 B2 σ2 g2 H2 m2 j2 hn2 a2 fb2 h2' => h2.run C nx Fb R n2 ds2 s2 c fs Kf Jf gd lv s3 s02 B2 pins gp σ2 g2 H2 m2 j2 cd hn2 k a2 fb2 h2', k.exc⟩ a fb h
theorem ys_yl (gd0 : G.Good) (hco : G.sc.isCoroutine = false) (he : ∀ (s0 : Shared) (H0 : Hp) (E : XK) (B : Bs), PE (G.cx s0 H0 E) e (rdE S B M0 (WD E) .clean fe)) (hi : interactive G.env = false := by rfl) : YS G S (.Expr (.Yield (some e) yp) pos) (yYl fe) := by
  refine ⟨fun C nx Fb R n ds s₀ c fs Kf Jf gd lv s s0 B pins gp σ g H m j cd hn k a fb hy => ?_⟩
  obtain ⟨hl, hy⟩ := hy
  obtain ⟨n, rfl⟩ : ∃ q, n = q + 1 := ⟨n - 1, by have := line_ok; omega⟩
  refine seg_Expr_Yield cd.split cd.gd cd.guard ?_ hco hi
  rw [cd.over]
  refine wpAny_mono (keepG a.inv a.own a.gk a.gf stillX (fun s' _ I' => (he s0 B.H0 (EW S C ds B) B).run pins s' σ H (fun v H' => ∃ d j1 g', Ok S B g' M0 σ H' m j1 ∧ Same g.F g'.F ∧ Rp S g'.F d v ∧ C.yl (ds ++ [d]) j1 (fun j2 => nx m (ds ++ [d]) j2)) I' ⟨g, m, j, _, _, a.ok, hy, fun d j1 g' v H' p l ok' w => ⟨d, j1, g', ok', l.f, w, p⟩, xoutW⟩) (fun Z v s' pz hs => ?_)) (fun _ _ z => z) fun e s' hx => k.exc _ ds s₀ s' s0 B e a.wr hx
  obtain ⟨vv, H', I', rv, d, j1, g', ok', l, w, hyl⟩ := hs
  intro kap hk
  have a' : GAt G S C ds s0 B pins gp σ g' H' m j1 (resS Z s') := ⟨a.wr, a.sz, pz.inv I', ok', pz.own', pz.gk, pz.gf⟩
  refine ⟨ds, d, j1, _, s0, B, pins, gp, σ, g', H', m, vv, ⟨hn, hl⟩, rv, w, a', hyl, fun s1 B1 j2 wk wr hn2 => hk .none s1 ?_⟩
  exact k.ok n (ds ++ [d]) s1 s1 (cutS s1 G.L) B1 σ _ B1.H0 m j2 (by rw [List.length_append, List.length_singleton]; omega) (a'.woken gd0 wk wr) (fb.trans (l.trans wk.sub)) hn2
end
end Mp

/-! OZ: loops in a generator's body. -/
namespace Mp
open PySem PySem.Spec L2
open PyProof.Rows hiding St
open GenW
variable {J : Type}
def yF (γ : Gv) (yb : Yv J) (C : YDt J) (nx : Sd → List D → J → Prop) : List D → Sd → List D → J → Prop
  | [], m, ds, j => nx m ds j
  | x :: xs, m, ds, j => ∃ m1, γ x m = some m1 ∧ yb C (fun m2 ds2 j2 => yF γ yb C nx xs m2 ds2 j2) m1 ds j
def yFor (fi : Iv J) (γ : Gv) (yb : Yv J) : Yv J := fun C nx m ds j => fi m j (fun xs j1 => yF γ yb C nx xs m ds j1) (fun e _ j' => C.xc ds e j')
theorem yF_mo {γ : Gv} {yb : Yv J} [hb : MoY yb] {C C' : YDt J} {nx nx' : Sd → List D → J → Prop} (a : ∀ ds j k k', (∀ j', k j' → k' j') → C.yl ds j k → C'.yl ds j k') (b : ∀ ds e j, C.xc ds e j → C'.xc ds e j) (q : ∀ m ds j, nx m ds j → nx' m ds j) :
    ∀ {xs : List D} {m : Sd} {ds : List D} {j : J}, yF γ yb C nx xs m ds j → yF γ yb C' nx' xs m ds j
  | [], _, _, _, h => q _ _ _ h
  | _ :: _, _, _, _, ⟨m1, e, h⟩ => ⟨m1, e, hb.mo h a b fun _ _ _ p => yF_mo a b q p⟩
instance {fi : Iv J} {γ : Gv} {yb : Yv J} [hi : MoA fi] [hb : MoY yb] : MoY (yFor fi γ yb) := ⟨fun h a b q => hi.mo h (fun _ _ p => yF_mo a b q p) fun _ _ _ => b _ _ _⟩
/-- what a loop's frame does with what comes out of it -/
abbrev retK (G : GP) (Kf : Flow → Sem PySem.Fin) (Jf : Value → Sem PySem.Fin) (gd : Bool → Bool) (lv : List Value → List Value) : Result → Sem PySem.Fin :=
  fun r => ((match r with | .ok f => (.pure f : Sem Flow) | .error e => .raise e).onRaise (cameBack G.env)).wrap Kf Jf gd lv
abbrev noteJ (G : GP) : Value → Sem PySem.Fin := fun e => (do noteFrame e G.env; theTreesLotGoes e : Sem Unit).wrap (fun _ => .raise e) .raise id id
section
variable {G : GP} {S : Js J} {C : YCx J} {nx : Sd → List D → J → Prop} {Fb : Hp} {pins : List (Addr × Obj)} {gp : Gp} {R : GenEnd} {c c' : Code} {fs : List Frame} {Kf : Flow → Sem PySem.Fin} {Jf : Value → Sem PySem.Fin} {gd : Bool → Bool} {lv : List Value → List Value} {p : Pos}
theorem ycd_loop (cd : YCd G c fs gd) (hw : c'.weight = 0) (hu : c'.cUnits = 0) : YCd G c' (.ret (retK G Kf Jf gd lv) none (gd false) (lv []) c p [] :: fs) id :=
  ⟨(over_loop hw hu).trans cd.over, by show (splitAtGen fs).map _ = none; rw [cd.split]; rfl, by show (gd false || fs.any Frame.guarded) = false; rw [cd.gd, cd.guard]; rfl, rfl⟩
theorem leaf_ok {n : Nat} {s₀ s : Shared} (f : Flow) (h : Seg (model G.P G.w) G.A R (YP G S C) n s₀ c (Kf f) fs s) : Seg (model G.P G.w) G.A R (YP G S C) n s₀ c' (.pure (.done f)) (.ret (retK G Kf Jf gd lv) none (gd false) (lv []) c p [] :: fs) s :=
  seg_leaf (.ok f) h
/-- an exception leaves the loop -/
theorem loop_exc (cd : YCd G c fs gd) (k : YK G S C nx Fb pins gp R c fs Kf Jf) (hw : c'.weight = 0) (hu : c'.cUnits = 0) {n : Nat} {ds : List D} {s₀ s s0 : Shared} {B : Bs} {e : Value} (wr : C.W ds s0 B) (hx : (G.cx s0 B.H0 (EW S C ds B)).xe e s) :
    Seg (model G.P G.w) G.A R (YP G S C) n s₀ c' (noteJ G e) (.ret (retK G Kf Jf gd lv) none (gd false) (lv []) c p [] :: fs) s := by
  have back : ∀ x s2, cameBackBy (model G.P G.w) (G.cx s0 B.H0 (EW S C ds B)).A G.env (G.cx s0 B.H0 (EW S C ds B)).xe x s2 → Seg (model G.P G.w) G.A R (YP G S C) n s₀ c' (.raise x) (.ret (retK G Kf Jf gd lv) none (gd false) (lv []) c p [] :: fs) s2 := fun x s2 h => by
    refine seg_leaf (.error x) ?_
    show Seg _ _ _ _ _ _ _ (((cameBack G.env x).bind fun _ => (Sem.raise x : Sem Flow)).wrap Kf Jf gd lv) _ _
    rw [Sem.bind_eq_wrap, Sem.wrap_wrap]
    refine seg_wrap ?_
    rw [cd.over]
    exact wpAny_mono h (fun _ s3 h3 => k.exc n ds s₀ s3 s0 B x wr h3) fun y s3 h3 => k.exc n ds s₀ s3 s0 B y wr h3
  refine seg_wrap ?_
  rw [(ycd_loop (Kf := Kf) (Jf := Jf) (lv := lv) (p := p) cd hw hu).over]
  exact wpAny_bind (wpAny_mono (ownG e s hx) (fun _ s2 h2 => wpAny_theTreesLotGoes (back e s2 h2)) fun y s2 h2 => back y s2 h2)
end
section
variable {G : GP} {S : Js J} {st : Stmt} {rest body : List Stmt} {y y' yb : Yv J} {f : Sv J} {fe : Ev J} {e test tg iter : Expr} {pos yp : Pos} {tc : Tv J} {fi : Iv J} {γ : Gv} {ks : List Nat} {w : Bool}
/-- the turn of a for loop -/
theorem seg_forLoop {P : Program} {w0 : World} {A : Around} {R : GenEnd} {Y : Protocol} {n : Nat} {s₀ s : Shared} {fs : List Frame} {env : Env} {itv : Value}
    (h : wpAny (model P w0) (A.over (.forLoop tg itv body [] env) fs) (pyNext itv) (fun r s1 => match r with
        | none => Seg (model P w0) A R Y n s₀ (.block [] env) (.pure (.done .next)) fs s1
        | some v => wpAny (model P w0) (A.over (.forLoop tg itv body [] env) fs) (letOwnedTupleGo tg itv v) (fun _ s2 => wpAny (model P w0) (A.over (.forLoop tg itv body [] env) fs) (assign tg env v) (fun _ s3 =>
            Seg (model P w0) A R Y n s₀ (.forLoop tg itv body [] env) ((execs body env).wrap (fun f => match f with
              | .next | .cont => .pure (.again (.forLoop tg itv body [] env))
              | .brk => .pure (.done .next)
              | .ret v => .pure (.done (.ret v))) (fun e => (do noteFrame e env; theTreesLotGoes e : Sem Unit).wrap (fun _ => .raise e) .raise id id) id id) fs s3)
            (fun x s3 => Seg (model P w0) A R Y n s₀ (.forLoop tg itv body [] env) ((do noteFrame x env; theTreesLotGoes x : Sem Unit).wrap (fun _ => .raise x) .raise id id) fs s3) s2)
            (fun x s3 => Seg (model P w0) A R Y n s₀ (.forLoop tg itv body [] env) ((do noteFrame x env; theTreesLotGoes x : Sem Unit).wrap (fun _ => .raise x) .raise id id) fs s3) s1)
      (fun x s3 => Seg (model P w0) A R Y n s₀ (.forLoop tg itv body [] env) ((do noteFrame x env; theTreesLotGoes x : Sem Unit).wrap (fun _ => .raise x) .raise id id) fs s3) s) :
    Seg (model P w0) A R Y n s₀ (.forLoop tg itv body [] env) ((model P w0).den (.forLoop tg itv body [] env)) fs s := by
  have nj : (fun e => (do noteFrame e env; theTreesLotGoes e : Sem Unit).bind (fun _ => (.raise e : Sem PySem.Fin))) = fun e => (do noteFrame e env; theTreesLotGoes e : Sem Unit).wrap (fun _ => .raise e) .raise id id := funext fun e => Sem.bind_eq_wrap _ _
  show Seg _ A R Y n s₀ _ ((forTurn tg itv body [] env).onRaise (fun x => do noteFrame x env; theTreesLotGoes x)) fs s
  unfold forTurn
  rw [Sem.onRaise_eq_wrap]
  refine seg_bind_wrap (wpAny_standAt ?_)
  refine seg_bind_wrap (wpAny_onRaise (wpAny_mono h (fun r s1 h1 => ?_) fun x s1 hx => wpAny_standAt ?_))
  · cases r with
    | none =>
      refine seg_again (c' := .block [] env) rfl ?_
      show Seg _ A R Y n s₀ _ ((execs [] env).onRaise (fun x => do noteFrame x env; theTreesLotGoes x) >>= fun f => pure (.done f)) fs s1
      rw [Sem.onRaise_eq_wrap, Sem.bind_eq_wrap', Sem.wrap_wrap]
      exact seg_execs_nil h1
    | some v =>
      refine seg_bind_wrap (wpAny_mono h1 (fun _ s2 h2 => ?_) fun x s2 hx => ?_)
      · refine seg_bind_wrap (wpAny_mono h2 (fun _ s3 h3 => ?_) fun x s3 hx => ?_)
        · rw [Sem.bind_eq_wrap', Sem.wrap_wrap]
          refine Eq.mp ?_ h3
          congr 1
          refine Sem.wrap_congr _ _ _ (fun f => ?_) fun e => (congrFun nj e).symm
          cases f <;> rfl
        · exact Eq.mp (by rw [← congrFun nj x]) hx
      · exact Eq.mp (by rw [← congrFun nj x]) hx
  · exact Eq.mp (by rw [← congrFun nj x]) hx
/-- the records of a loop's iterator, in any context of this frame -/
def FpG (G : GP) (pins : List (Addr × Obj)) (H : Hp) (b : Addr) : Prop := H b = none ∧ b ≠ G.L ∧ b ∉ frs G.outer ∧ G.L ≤ b ∧ ∀ p ∈ G.pn ++ pins, p.1 ≠ b
theorem FpG.ok {s0 : Shared} {H0 H : Hp} {E : XK} {pins : List (Addr × Obj)} {σ : St} {s : Shared} {b : Addr} (gd0 : G.Good) (hs : s0.heap.objs.size = G.L) (h : FpG G pins H b) : FpOk (G.cx s0 H0 E) pins H b :=
  ⟨h.1, h.2.1, h.2.2.1, .inr (by show s0.heap.objs.size ≤ b; rw [hs]; exact h.2.2.2.1), fun x c e => by
    have e : (cellsFrom (G.L + 1) G.sc.names []).lookup x = some c := e
    rw [gd0.cl] at e; exact absurd e (by simp), h.2.2.2.2⟩
theorem FpG.of {s0 : Shared} {H0 H : Hp} {E : XK} {pins : List (Addr × Obj)} {b : Addr} (hs : s0.heap.objs.size = G.L) (h : FpOk (G.cx s0 H0 E) pins H b) : FpG G pins H b := by
  obtain ⟨h1, h2, h3, h4, _, h6⟩ := h
  refine ⟨h1, h2, h3, ?_, h6⟩
  rcases h4 with z | z
  · exact nomatch (show b ∈ ([] : List Addr) from z)
  · rw [← hs]; exact z
theorem GAt.pinned {C : YCx J} {ds : List D} {s0 : Shared} {B : Bs} {pins : List (Addr × Obj)} {gp : Gp} {σ : St} {g : Gh} {H : Hp} {m : Sd} {j : J} {s : Shared} {fp : List Addr} (gd0 : G.Good) (a : GAt G S C ds s0 B pins gp σ g H m j s) (hf : ∀ b ∈ fp, FpG G pins H b) (ho : ∀ b ∈ fp, ∃ o, s.heap.get? b = some o ∧ ∀ v, o.data ≠ .cell v) :
    GAt G S C ds s0 B (pins ++ pinsAt fp s.heap) gp σ g H m j s := ⟨a.wr, a.sz, a.inv.pinned (fun b hb => (hf b hb).ok (σ := σ) (s := s) gd0 a.sz) ho, a.ok, a.own, a.gk, a.gf⟩
theorem ys_for (gd0 : G.Good) (hi : ∀ (s0 : Shared) (H0 : Hp) (E : XK) (B : Bs), PI (G.cx s0 H0 E) tg iter (rdI S B M0 (WD E) true w fi)) (hg : ∀ (s0 : Shared) (H0 : Hp) (E : XK) (B : Bs), PG (G.cx s0 H0 E) tg (rdG S B M0 w ks γ)) (hb : YSs G S body yb)
    (hs : ∀ x, foldedSetIterable iter G.env x = pure x := by intro _; rfl) : YS G S (.For tg iter body [] pos) (yFor fi γ yb) := by
  refine ⟨fun C nx Fb R n ds s₀ c fs Kf Jf gd lv s s0 B pins gp σ g H m j cd hn k a fb hy => ?_⟩
  rw [exec_For]
  refine seg_bind_wrap (wpAny_standAt ?_)
  refine seg_bind_wrap ?_
  rw [cd.over]
  obtain ⟨Z, T0, pz0, e0, hT⟩ := Pz.start a.inv.bare a.own a.gk a.gf
  have Ia := a.inv.call' (s' := { s with gens := T0 }) (ch := []) rfl Un.refl a.inv.hok hT fun b z => by simp at z
  rw [← e0]
  refine wpAny_mono (pz0.go stillX ((hi s0 B.H0 (EW S C ds B) B).run pins { s with gens := T0 } σ H (fun Jt H' => ∃ xs j' g', Ok S B g' M0 σ H' m j' ∧ Same g.F g'.F ∧ WalkD S Jt xs true w g' ∧ yF γ yb C.toYDt nx xs m ds j') Ia ⟨g, m, j, _, _, a.ok, hy, fun xs j' g' H' Jt h l ok' wk => ⟨xs, j', g', ok', l.f, wk, h⟩, xoutW⟩) (fun v s1 pz1 h1 => ?_)) (fun _ _ z => z) fun x s' hx => k.exc n ds s₀ s' s0 B x a.wr hx
  refine seg_bind_wrap (wpAny_of_eq (hs v) ?_)
  refine seg_bind_wrap (wpAny_standAt ?_)
  refine seg_bind_wrap (wpAny_holding ?_)
  rw [cd.over]
  refine wpAny_mono (pz1.go stillX h1 fun itv s2 pz2 h2 => ?_) (fun _ _ z => z) fun x s' hx => k.exc n ds s₀ s' s0 B x a.wr hx
  obtain ⟨it, fp, tn, Jt, H2, rfl, I2, T, st2, f2, xs, j2, g2, ok2, l2, wk, hy2⟩ := h2
  refine seg_call fun p => ?_
  have cl := ycd_loop (c' := .forLoop tg (.ref it) body [] G.env) (Kf := Kf) (Jf := Jf) (lv := lv) (p := p) cd rfl rfl
  have a2 : GAt G S C ds s0 B pins gp σ g2 H2 m j2 (resS Z s2) := ⟨a.wr, a.sz, pz2.inv I2, ok2, pz2.own', pz2.gk, pz2.gf⟩
  have turn : ∀ (r i n : Nat) (ds : List D) (s₀ s s0 : Shared) (B : Bs) (σ : St) (g : Gh) (H : Hp) (m : Sd) (j : J), i + r = xs.length → n + ds.length = sizeLine → GAt G S C ds s0 B pins gp σ g H m j s → tn i s.heap → (∀ b ∈ fp, FpG G pins H b) → Same g2.F g.F → yF γ yb C.toYDt nx (xs.drop i) m ds j →
      Seg (model G.P G.w) G.A R (YP G S C) n s₀ (.forLoop tg (.ref it) body [] G.env) ((model G.P G.w).den (.forLoop tg (.ref it) body [] G.env)) (.ret (retK G Kf Jf gd lv) none (gd false) (lv []) c p [] :: fs) s := by
    intro r
    induction r with
    | zero =>
      intro i n ds s₀ s s0 B σ g H m j hi hn a st ff sub hy
      have ei : i = xs.length := by omega
      rw [ei, List.drop_length] at hy
      refine seg_forLoop ?_
      rw [cl.over]
      refine wpAny_mono (keepG a.inv a.own a.gk a.gf stillX (fun s' es I' => T.done (G.cx s0 B.H0 (EW S C ds B)) rfl rfl rfl rfl i pins s' σ H (G.cx s0 B.H0 (EW S C ds B)).xe I' (fun b hb => (ff b hb).ok (σ := σ) (s := s') gd0 a.sz) (by rw [es]; exact st) (ei ▸ wk.stops H (sub.trans (a.ok.b.fg.trans a.ok.b.gh)))) (fun Z rr s3 pz h3 => ?_)) (fun _ _ z => z) fun x s3 hx => loop_exc cd k rfl rfl a.wr hx
      obtain ⟨rfl, I3⟩ := h3
      exact leaf_ok .next (k.ok n ds s₀ _ s0 B σ g H m j hn ⟨a.wr, a.sz, pz.inv I3, a.ok, pz.own', pz.gk, pz.gf⟩ ((fb.trans l2).trans sub) hy)
    | succ r ih =>
      intro i n ds s₀ s s0 B σ g H m j hi hn a st ff sub hy
      have hlt : i < xs.length := by omega
      rw [List.drop_eq_getElem_cons hlt] at hy
      obtain ⟨m1, hm1, hy⟩ := hy
      have hsub := sub.trans (a.ok.b.fg.trans a.ok.b.gh)
      refine seg_forLoop ?_
      rw [cl.over]
      obtain ⟨Z1, T1, pa, ea, hTa⟩ := Pz.start a.inv.bare a.own a.gk a.gf
      have Ib := a.inv.call' (s' := { s with gens := T1 }) (ch := []) rfl Un.refl a.inv.hok hTa fun b z => by simp at z
      rw [← ea]
      refine wpAny_mono (pa.go stillX (T.item (G.cx s0 B.H0 (EW S C ds B)) rfl rfl rfl rfl i pins { s with gens := T1 } σ H (G.cx s0 B.H0 (EW S C ds B)).xe Ib (fun b hb => (ff b hb).ok (σ := σ) (s := s) gd0 a.sz) st (wk.goes i H hlt hsub)) (fun rr s3 pb h3 => ?_)) (fun _ _ z => z) fun x s3 hx => loop_exc cd k rfl rfl a.wr hx
      obtain ⟨u, rfl, h3⟩ := h3
      refine wpAny_mono (pb.go stillX h3 fun _ s4 pc h4 => ?_) (fun _ _ z => z) fun x s4 hx => loop_exc cd k rfl rfl a.wr hx
      obtain ⟨x, H4, I4, r4, y4, st4, fr4⟩ := h4
      obtain ⟨dd, hdd, yy⟩ := wk.yields i H x H4 hlt hsub y4
      have edd : dd = xs[i] := by rw [List.getElem?_eq_getElem hlt] at hdd; exact (Option.some.inj hdd).symm
      subst edd
      have item : ∃ g3, Le g g3 ∧ Ok S B g3 M0 σ H4 m j ∧ RpX S g3.F w xs[i] x := by
        rcases yy with ⟨rfl, rp⟩ | ⟨hw, T, vs, es, rfl, hT, rfl, hde, rl⟩ | ⟨T, o, vs, es, rfl, hT, hdo, rfl, hde, rl⟩
        · exact ⟨g, Le.refl _, a.ok, .inl (rp.mono sub)⟩
        · obtain ⟨t1, t2, t3, t4⟩ := a.ok.b.hn hT
          exact ⟨_, Le.frz a.ok.b.fg t2, ⟨a.ok.b.frz _ hT, a.ok.s.le (Le.frz a.ok.b.fg t2)⟩, .inr ⟨hw, T, vs, es, rfl, upd_same, hde, (rl.mono sub).mono (same_new t1)⟩⟩
        · obtain ⟨t1, t2, t3, t4⟩ := a.ok.b.hn hT
          exact ⟨_, Le.frz a.ok.b.fg t2, ⟨a.ok.b.frz _ hT, a.ok.s.le (Le.frz a.ok.b.fg t2)⟩, .inl (by rw [hde]; exact .tup (.inl ⟨o, upd_same, hdo⟩) ((rl.mono sub).mono (same_new t1)))⟩
      obtain ⟨g3, l3, ok3, rp3⟩ := item
      have ff4 : ∀ b ∈ fp, FpG G pins H4 b := fun b hb => ⟨fr4 b hb, (ff b hb).2⟩
      have a4 : GAt G S C ds s0 B (pins ++ pinsAt fp s4.heap) gp σ g3 H4 m j (resS Z1 s4) := GAt.pinned gd0 ⟨a.wr, a.sz, pc.inv I4, ok3, pc.own', pc.gk, pc.gf⟩ ff4 (T.obj _ _ st4)
      refine wpAny_mono (keepG a4.inv a4.own a4.gk a4.gf stillX (fun s' _ I' => (hg s0 B.H0 (EW S C ds B) B).run _ s' σ H4 x u (fun σ' H' => Ok S B g3 M0 σ' H' m1 j) I' r4 ⟨g3, m, j, _, m1, ok3, rp3, hm1, fun r' ok' _ _ => ok'⟩) (fun Z5 _ s5 pd h5 => ?_)) (fun _ _ z => z) fun x s5 hx => loop_exc cd k rfl rfl a.wr hx
      obtain ⟨σ5, H5, I5, ok5⟩ := h5
      refine hb.run C _ g3.F R n ds s₀ _ _ _ _ id id (resS Z5 s5) s0 B _ gp σ5 g3 H5 m1 j cl hn ⟨fun n2 ds2 s2' s6 s02 B2 σ2 g2' H2' m2 j2' hn2 a6 fb6 h6 => ?_, fun n2 ds2 s2 s3 s02 B2 x wr hx => loop_exc cd k rfl rfl wr hx⟩ ⟨a.wr, a.sz, pd.inv I5, ok5, pd.own', pd.gk, pd.gf⟩ (Same.refl _) hy
      refine seg_again rfl (ih (i + 1) n2 ds2 s2' s6 s02 B2 σ2 g2' H2' m2 j2' (by omega) hn2 ⟨a6.wr, a6.sz, a6.inv.unpinned, a6.ok, a6.own, a6.gk, a6.gf⟩ ?_ ?_ ?_ h6)
      · exact T.keep _ _ _ st4 fun b hb o e => (a6.inv.pin (b, o) (List.mem_append_right _ (List.mem_append_right _ (mem_pinsAt hb e)))).1
      · intro b hb
        obtain ⟨o, e, d⟩ := T.obj _ _ st4 b hb
        exact ⟨(a6.inv.pin (b, o) (List.mem_append_right _ (List.mem_append_right _ (mem_pinsAt hb e)))).2.1, (ff b hb).2⟩
      · exact (sub.trans l3.f).trans fb6
  exact turn xs.length 0 n ds s₀ _ s0 B σ g2 H2 m j2 (Nat.zero_add _) hn a2 st2 (fun b hb => (f2 b hb).elim fun h1 h2 => FpG.of a.sz ⟨h1, h2⟩) (Same.refl _) (by rw [List.drop_zero]; exact hy2)
end
end Mp

/-! OX: the call of a generator def; its consumer's frame behind a turn. -/
namespace Mp
open PySem PySem.Spec L2
open PyProof.Rows hiding St
open GenW
variable {J : Type}
/-- where a run starts: what is frozen, the source, the arguments -/
structure Start (S : Js J) (B : Bs) (j : J) (ds : List D) (vs : List V) : Prop where
  fh : Same B.F0 B.H0
  fa : ∀ b o, B.F0 b = some o → ¬ B.A0 b
  jr : S.rep j B.F0 B.A0 B.H0
  sm : ∃ o u, B.H0 sysModules = some (.frz o u)
  rp : RpL S B.F0 ds vs
/-- a generator that has not begun; y: what its body does -/
def YMade (P : Program) (w : World) (S : Js J) (mg : Str → Option Value) (base : Heap) (k : Nat) (y : Yv J) (n : Nat) (outer : List Env) (H : Hp) (s : Shared) (vs : List V) (u : Value) (s' : Shared) : Prop :=
  ∃ (a : Addr) (g : Nat) (c : Code) (go : Obj) (N : List Str) (q : Str) (sc : Scope) (f : Addr) (cd : Value), u = .ref a ∧ s.heap.objs.size < a ∧ a < s'.heap.objs.size ∧ s'.heap.IsGen a g ∧ s'.heap.get? a = some go ∧ (∀ h : Heap, h.get? a = some go → h.IsGen a g) ∧ (∀ v, go.data ≠ .cell v) ∧ s'.gens[g]? = some (.fresh c) ∧ s'.os = s.os ∧ AllBare s'.gens ∧ s.gens.size ≤ g ∧ (∀ b o, s.heap.get? b = some o → s'.heap.get? b = some o) ∧
    ∀ (A : Around) (s2 : Shared) (C : YCx J) (B : Bs) (j : J) (ds : List D), Room k A → A.guards = some [] → g < s2.gens.size → GFr s2.gens → Env0 P w S.K mg base A outer s2 B.H0 → (∀ b o, (b = s.heap.objs.size ∨ b = a) → s'.heap.get? b = some o → s2.heap.get? b = some o) → B.H0 s.heap.objs.size = none → B.H0 a = none → Start S B j ds vs → C.W [] (cutS s2 s.heap.objs.size) B → y C.toYDt (fun _ ds j => C.dn ds j) (startD n ds) [] j →
      (GP.mk P w S.K mg base N q sc f cd A outer s.heap.objs.size [(a, go)] g).Good ∧ Seg (model P w) A (YR (GP.mk P w S.K mg base N q sc f cd A outer s.heap.objs.size [(a, go)] g) S C) (YP (GP.mk P w S.K mg base N q sc f cd A outer s.heap.objs.size [(a, go)] g) S C) sizeLine s2 c ((model P w).den c) [] s2
structure YFn (P : Program) (w : World) (S : Js J) (mg : Str → Option Value) (base : Heap) (k : Nat) (f : Addr) (fd : FuncData) (ps : List Str) (y : Yv J) (n : Nat) : Prop where
  run : ∀ (A : Around) (outer : List Env) (s : Shared) (H : Hp) (args : Args) (us : List Value) (vs : List V), Room k A → Env0 P w S.K mg base A outer s H → BindsTo s fd args (ps.zip us) → Vals vs us → vs.length = ps.length →
    codeAny (model P w) A (.call (.ref f) args) (fun r s' => match r with | .ok (.ret u) => YMade P w S mg base k y n outer H s vs u s' | _ => False) s
theorem yfn_of {P : Program} {w : World} {S : Js J} {mg : Str → Option Value} {base : Heap} {x qual : Str} {st : Stmt} {f : Addr} {fd : FuncData} {N ps : List Str} {k : Nat} {y : Yv J} (F : L2.Fun S.K x qual st f fd) (Sc : GScope N ps (defScope st)) (hnc : ∀ z ∈ (defScope st).names, z.2 ≠ .cell) (hcl : ∀ n, cellsFrom n (defScope st).names [] = [])
    (hbody : ∀ (cdv : Value) (A : Around) (outer : List Env) (L : Addr) (pn : List (Addr × Obj)) (gn : Nat), (GP.mk P w S.K mg base N qual (defScope st) f cdv A outer L pn gn).Good → Room k (A.deeper (envOfC qual (defScope st) L f cdv)) → (A.deeper (envOfC qual (defScope st) L f cdv)).guards = some [] →
      YSs (GP.mk P w S.K mg base N qual (defScope st) f cdv A outer L pn gn) S (defBody st) y) : YFn P w S mg base (k + 1) f fd ps y N.length := by
  obtain ⟨oc, od, kV, doc, pm, an, cdv, ct, osl, rfl, lk, hcd⟩ := F.ex
  refine ⟨fun A outer s H args us vs hr e0 hb r hl => ?_⟩
  have KX : S.K.In s.heap := e0.mod.kin.keeps fun b o e => (e0.bs b o e).1
  have lim : s.heap.NoLimit := e0.mod.nolimit.keeps fun b o e => (e0.bs b o e).1
  have hkind : ∀ z ∈ ps.zip us, (defScope st).names.lookup z.1 = some .local ∨ ((defScope st).names.lookup z.1 = some .cell ∧ ((cellsFrom (s.heap.objs.size + 1) (defScope st).names []).lookup z.1).isSome = true) := fun ⟨n, v⟩ hz => by
    rcases Sc.par n (List.of_mem_zip hz).1 with q | q
    · exact .inl q
    · exact absurd rfl (hnc _ (PySem.mem_of_lookup q))
  refine codeAny_call_generator hr.depth (KX _ _ lk) rfl Sc.co Sc.gen rfl (PySem.W.codeRec_of KX hcd) (hb _ _ _ _ ?_)
  refine wpAny_newFunctionEnv_cells Sc.kind hkind fun env he s1 x => ?_
  subst he
  have lim1 : s1.heap.NoLimit := lim.keeps x.toInCall.keep
  refine ⟨lim1, ?_⟩
  obtain ⟨h1, tk, es1, hk1⟩ := x.done
  have os1 : s1.os = s.os := by rw [es1]
  have gen1 : s1.gens = s.gens := by rw [es1]
  have lt1 : s.heap.objs.size < s1.heap.objs.size := x.toInCall.ns.lt
  have kp1 := x.toInCall.keep
  have main : ∀ (go : Obj) (nm qn : Value) (tk2 : Nat), go.cls = .type "generator" → go.data = .fields #[.int s1.gens.size 0, nm, qn] → go.slots = #[] → (∀ h : Heap, (h.push go).get? h.objs.size = some go) →
      YMade P w S mg base (k + 1) y N.length outer H s vs (.ref s1.heap.objs.size) { s1 with gens := s1.gens.push (.fresh (.func (defBody st) (envOfC qual (defScope st) s.heap.objs.size f cdv))), toks := tk2, heap := s1.heap.push go } := by
    intro go nm qn tk2 hgc hgd0 hgs hgp
    have hgen : ∀ h : Heap, h.get? s1.heap.objs.size = some go → h.IsGen s1.heap.objs.size s1.gens.size := fun h e => ⟨go, nm, qn, e, hgc, hgd0, hgs⟩
    have hpushed : (s1.heap.push go).get? s1.heap.objs.size = some go := hgp _
    have hgd : ∀ v, go.data ≠ .cell v := fun v q => by rw [hgd0] at q; cases q
    refine ⟨s1.heap.objs.size, s1.gens.size, _, go, N, qual, defScope st, f, cdv, rfl, lt1, ?_, hgen _ hpushed, hpushed, hgen, hgd, Array.getElem?_push_size .., os1, ?_, by rw [gen1]; exact Nat.le_refl _, fun b o e => Heap.get?_push_of_some _ (kp1 b o e), ?_⟩
    · show _ < (s1.heap.push _).objs.size
      rw [Heap.size_push]; exact Nat.lt_succ_self _
    · exact AllBare.push (by rw [gen1]; exact e0.bare) rfl
    intro Aw s2 C B j ds hrw hgu hgz hgF e1 hk2 nL na sta hW hy
    have e0w : Env0 P w S.K mg base Aw outer s H := ⟨e1.frames, e0.mod, e0.bs, e0.bsz, e0.funs, e0.frf, e0.hok, e0.bare⟩
    have good : (GP.mk P w S.K mg base N qual (defScope st) f cdv Aw outer s.heap.objs.size [(s1.heap.objs.size, go)] s1.gens.size).Good :=
      ⟨Sc.kind, fun z hz => ⟨hnc z hz, Sc.nofree z hz⟩, hcl _, hrw.hd, e0.bsz, fun b hb => by obtain ⟨_, o, ho, _⟩ := e0.funs.mem hb; exact Heap.lt_size ho⟩
    refine ⟨good, ?_⟩
    have ht := hbody cdv Aw outer s.heap.objs.size [(s1.heap.objs.size, go)] s1.gens.size good (hrw.deeper _) hgu
    have I1 : Inv (gcxOf P w S.K mg base N qual (defScope st) f cdv Aw outer s H (EW S C [] B) []) [] (start N vs) H s1 := inv_startG Sc hrw.hd e0w hl r x
    have kp2 : ∀ b o, s1.heap.get? b = some o → (s1.heap.push go).get? b = some o := fun b o e => Heap.get?_push_of_some _ e
    have I2 := I1.call' (s' := { s1 with heap := s1.heap.push go }) (ch := []) rfl (Un.kept kp2) (I1.hok.kept kp2) I1.bare fun b z => by simp at z
    have I3 : Inv ((GP.mk P w S.K mg base N qual (defScope st) f cdv Aw outer s.heap.objs.size [(s1.heap.objs.size, go)] s1.gens.size).cx s H (EW S C [] B)) [] (start N vs) H { s1 with heap := s1.heap.push go } :=
      ⟨⟨I2.ok.mod, I2.ok.kind, I2.ok.glob, I2.ok.blt, I2.ok.above, I2.ok.inj, I2.ok.has, I2.ok.cab, I2.ok.hd, I2.ok.frames, I2.ok.stk, I2.ok.exf, I2.ok.bs, I2.ok.bsz, I2.ok.noex, I2.ok.exfs, I2.ok.funs, I2.ok.frf⟩, I2.os, I2.bare, I2.base, I2.loc, I2.cell, I2.free, I2.freeC, fun p hp => by
        have hp : p ∈ [(s1.heap.objs.size, go)] := (List.mem_append.mp hp).elim (fun z => z) (fun z => (nomatch z))
        rw [List.mem_singleton.mp hp]
        exact ⟨hpushed, I1.hok.fresh (Nat.le_refl _), Nat.ne_of_gt lt1, I1.nofs (Nat.le_refl _), hgd⟩, I2.hok, I2.len⟩
    have I4 := inv_wake (E1 := EW S C [] B) good I3 e1 (fun o e => hk2 _ o (.inl rfl) e) nL fun p hp => by
      have hp : p ∈ [(s1.heap.objs.size, go)] := (List.mem_append.mp hp).elim (fun z => z) (fun z => (nomatch z))
      rw [List.mem_singleton.mp hp]
      exact ⟨hk2 _ go (.inr rfl) hpushed, na⟩
    have sz4 : (cutS s2 s.heap.objs.size).heap.objs.size = s.heap.objs.size := by
      obtain ⟨_, ⟨oL, _, _, hoL, _⟩, _⟩ := I3.loc
      exact cut_size (Nat.le_of_lt (Heap.lt_size (hk2 _ oL (.inl rfl) hoL)))
    have at0 : GAt (GP.mk P w S.K mg base N qual (defScope st) f cdv Aw outer s.heap.objs.size [(s1.heap.objs.size, go)] s1.gens.size) S C [] (cutS s2 s.heap.objs.size) B [] [] (start N vs) ⟨B.F0, B.F0, B.A0⟩ B.H0 (startD N.length ds) j s2 :=
      ⟨hW, sz4, I4, ⟨⟨Same.refl _, sta.fh, sta.fa, sta.jr, Same.refl _, fun b o e => .inl e, fun b z => .inl z, fun b o e _ => e, fun b e => e, sta.sm⟩, slots_start (fun i hi => rfl) sta.rp⟩, hgz, fun p hp => (nomatch hp), hgF⟩
    refine seg_func ?_
    refine ht.run C _ B.F0 _ sizeLine [] s2 _ [] _ _ id id s2 _ B [] [] (start N vs) _ B.H0 _ j ⟨over_func, rfl, rfl, rfl⟩ (Nat.add_zero _) ⟨fun n ds' s₀ s' s0 B' σ g' H' m' j' hn' a' _ hd => seg_end (.ok (.ret .none)) (.inl ⟨.inl rfl, ds', s0, B', [], [], σ, g', H', m', j', a', hd, hn'⟩), fun n ds' s₀ s' s0 B' e wr hx => ?_⟩ at0 (Same.refl _) hy
    refine seg_wrap ?_
    rw [over_func]
    exact wpAny_mono hx (fun _ s'' q => seg_end (.error e) (.inr ⟨e, rfl, ds', s0, B', wr, q⟩)) fun _ s'' q => q.elim
  exact main _ _ _ _ rfl rfl rfl fun h => Heap.get?_push_size _ rfl
end Mp

/-! OT: for over a generator. -/
namespace Mp
open PySem PySem.Spec L2
open PyProof.Rows hiding St
open GenW
variable {J : Type}
section
variable {X : Cx} {pins : List (Addr × Obj)} {σ : St} {H : Hp} {s : Shared}
theorem store_g {E : Value → Shared → Prop} {i : Nat} {x : Str} {v : V} {u : Value} (I : Inv X pins σ H s) (hN : X.N.Nodup) (hi : X.N[i]? = some x) (hk : X.env.scope.names.lookup x = some .local) (r : RelV v u) :
    wpAny (model X.prog X.w) X.A (storeName X.env x u) (fun _ s' => Inv X pins (σ.set i (some v)) H s' ∧ s'.gens = s.gens) E s := by
  obtain ⟨m, hn, hl⟩ := I.loc
  have cls : (X.env.scope.kind == .class || (X.env.scope.kind == .module && X.env.locals != X.env.globals)) = false := by rw [I.ok.kind]; rfl
  refine wpAny_storeName_local hk hn (fun h' hn' hs => ?_) cls
  have same : ∀ b, b ≠ X.env.locals → h'.get? b = s.heap.get? b := hs.2
  have old : ∀ {b : Addr} {o : Obj}, X.s_0.heap.get? b = some o → b ≠ X.env.locals := fun e z => by
    have h1 := Heap.lt_size e
    rw [z] at h1
    exact absurd (Nat.lt_of_lt_of_le h1 I.ok.above) (Nat.lt_irrefl _)
  have lti : i < σ.length := by rw [I.len]; exact (List.getElem?_eq_some_iff.mp hi).1
  have un : Un X.fs X.ex X.H_0 H X.s_0.heap h' := by
    obtain ⟨k1, k2, k3, k4, k5, k6, k7⟩ := I.base
    exact { keep := fun b o e n hb hx => by rw [same b (old e)]; exact k1 b o e n hb hx, slot := fun b o e n hb hx => by rw [same b (old e)]; exact k2 b o e n hb hx, free := k3, there := fun b o e hx => by rw [same b (old e)]; exact k4 b o e hx, tups := k5, frzs := k6, tbls := k7 }
  have cellK : ∀ {y : Str} {c : Addr} {w : Option Value}, X.env.cells.lookup y = some c → s.heap.IsCell c w → h'.IsCell c w := fun e z => z.sameBut hs (I.cne _ _ e)
  have look : ∀ (k : Nat) (y : Str) (w : V), X.N[k]? = some y → (σ.set i (some v))[k]? = some (some w) → Vis X.env.scope y → ∃ u', RelV w u' ∧ Look X.env h' (fun z => if z = x then some u else m z) y u' := fun k y w e1 e2 e3 => by
    by_cases hki : k = i
    · rw [hki] at e1 e2
      rw [List.getElem?_set_self lti] at e2
      rw [hi] at e1
      obtain rfl := Option.some.inj e1
      obtain rfl := Option.some.inj (Option.some.inj e2)
      exact ⟨u, r, .inl ⟨hk, if_pos rfl⟩⟩
    · rw [List.getElem?_set_ne (fun z => hki z.symm)] at e2
      obtain ⟨u', r', q⟩ := hl k y w e1 e2 e3
      have ne : y ≠ x := fun z => hki (L2.nodup_ix hN e1 (z ▸ hi))
      refine ⟨u', r', q.elim (fun q => .inl ⟨q.1, ?_⟩) fun ⟨q1, c, q2, q3⟩ => .inr ⟨q1, c, q2, cellK q2 q3⟩⟩
      show (if y = x then some u else m y) = some u'
      rw [if_neg ne]; exact q.2
  refine ⟨{ ok := I.ok, os := I.os, bare := I.bare, base := un, loc := ⟨_, hn', look⟩, cell := fun y c e => let ⟨w, z⟩ := I.cell y c e; ⟨w, cellK e z⟩, free := I.free, freeC := I.freeC, pin := fun p hp => ?_, hok := fun b o e => ?_, len := by rw [List.length_set]; exact I.len }, rfl⟩
  · obtain ⟨p1, p2, p3, p4, p5⟩ := I.pin p hp
    exact ⟨by rw [same _ p3]; exact p1, p2, p3, p4, p5⟩
  · refine (I.hok b o e).stay (fun c w hc q => ?_) (fun _ q => q) fun _ _ q => q
    rw [same c fun z => ?_]
    · exact q
    · subst z
      have hf := I.free
      rcases hc with hc | hc
      · rw [hc] at hf; rw [hf] at e; cases e
      · rw [hf] at hc; cases hc
end

theorem setGen_ne {s : Shared} {g i : Nat} {x : GenState} (h : i ≠ g) : (s.setGen g x).gens[i]? = s.gens[i]? := by
  show (s.gens.setIfInBounds g x)[i]? = _
  rw [Array.getElem?_setIfInBounds, if_neg (fun z => h z.symm)]
/-! ### what stands -/
theorem still_cx {P : Program} {w : World} {outer : List Env} {H : Hp} {s0 : Shared} {E : XK} : Still (fun e s'' => CX P w outer H s0 E e s'') := fun Z e s1 hz _ _ ⟨a, B, H', cls, d, z1, fl, z2, ub, z3, z4, z5, z6⟩ =>
  ⟨a, B, H', cls, d, z1, fl, z2, ub, z3, z4, res_bare hz z5, z6⟩
theorem still_wp2 {M : Model} {A : Around} {f : Value → Sem Unit} {Q : Value → Shared → Prop} {R : Value → Shared → Prop} (hQ : Still Q) (hR : Still R) : Still (fun e s' => wpAny M A (f e) (fun _ s'' => Q e s'') (fun x s'' => R x s'') s') := fun Z e s1 hz hg hp h Γ p hΓ =>
  Sem.wp_mono M Γ (f e) (fun _ _ _ ⟨s2, e2, g2, p2, q2⟩ => by subst e2; exact hQ Z e s2 hz g2 p2 q2) (fun x _ _ ⟨s2, e2, g2, p2, q2⟩ => by subst e2; exact hR Z x s2 hz g2 p2 q2) p _ (wp_res M Γ Z (f e) _ _ p s1 hg hp (h Γ p hΓ))
section
variable {P : Program} {w : World} {K : PySem.W.Frag} {mg : Str → Option Value} {base : Heap} {N : List Str} {qual : Str} {scope : Scope} {f : Addr} {cd : Value} {A : Around} {outer : List Env} {s : Shared} {H : Hp} {E : XK}
theorem stillE : Still (cxE P w K mg base N qual scope f cd A outer s H E).xe := still_wp2 still_cx still_cx
theorem stillF : Still (cxF P w K mg base N qual scope f cd A outer s H E).xe := still_no
end
/-- statements leave the generators that stand -/
theorem pss_still {X : Cx} {body : List Stmt} {t : TS} (h : PSs X body t) (hx : Still X.xe) {pins : List (Addr × Obj)} {s : Shared} {σ : St} {H : Hp} {D : Ends} (I : Inv X pins σ H s) (ht : t D σ H) :
    wpAny (model X.prog X.w) X.A (execs body X.env) (fun f s' => SP X pins D f s' ∧ ∀ (i : Nat) (y : GenState), s.gens[i]? = some y → isSusp y = true → s'.gens[i]? = some y) X.xe s := by
  refine wpAny_still I.bare hx (fun T hT _ => h.run pins { s with gens := T } σ H D (I.call' (s' := { s with gens := T }) (ch := []) rfl Un.refl I.hok hT fun b z => by simp at z) ht) fun f s1 T' h1 hk hb _ => ⟨?_, hk⟩
  have mv : ∀ {σ' : St} {H' : Hp}, Inv X pins σ' H' s1 → Inv X pins σ' H' { s1 with gens := T' } := fun {σ' H'} J => J.call' (s' := { s1 with gens := T' }) (ch := []) rfl Un.refl J.hok (hb J.bare) fun b z => by simp at z
  cases f with
  | next => obtain ⟨σ', H', J, q⟩ := h1; exact ⟨σ', H', mv J, q⟩
  | brk => obtain ⟨σ', H', J, q⟩ := h1; exact ⟨σ', H', mv J, q⟩
  | cont => obtain ⟨σ', H', J, q⟩ := h1; exact ⟨σ', H', mv J, q⟩
  | ret u => obtain ⟨v, σ', H', J, r, q⟩ := h1; exact ⟨v, σ', H', mv J, r, q⟩
/-- next(g): what is handed out leaves a generator that stands -/
theorem next_s {P : Program} {w : World} {A : Around} {E : Value → Shared → Prop} {s : Shared} {a : Addr} {g n : Nat} {gs : GenState} {F : Nat → Shared → Shared → Prop} {Er : Value → Shared → Prop} {Y : Protocol} {Q : Option Value → Shared → Prop} (hh : A.handled = none) (hl : s.heap.NoLimit) (hroom : A.depth < recursionLimit) (hg : s.heap.IsGen a g) (hgs : s.gens[g]? = some gs)
    (hgo : gs.Goes (model P w) A.in1 (fun n s0 r s1 => ((r = .ok (.ret .none) ∨ r = .ok .next) ∧ F n s0 s1) ∨ ∃ e, r = .error e ∧ Er e s1) Y n (.send .none) (s.setGen g .running))
    (hY : ∀ v s1 gs', gs'.bare = true → isSusp gs' = true → Y (n - 1) (s.setGen g .running) v s1 (fun r' s'' => match (generalizing := false) n with | 0 => False | m + 1 => gs'.Goes (model P w) A.in1 (fun n s0 r s1 => ((r = .ok (.ret .none) ∨ r = .ok .next) ∧ F n s0 s1) ∨ ∃ e, r = .error e ∧ Er e s1) Y m r' s'') → Q (some v) (s1.setGen g gs'))
    (hP : ∀ s1, F n (s.setGen g .running) s1 → ∀ h', (∀ b o, s1.heap.get? b = some o → h'.get? b = some o) → Q none { s1.setGen g .finished with heap := h' }) (hE : ∀ e s1, Er e s1 → s1.heap.IsGen a g ∧ NotStop (model P w) e s1.heap ∧ E e (s1.setGen g .finished)) : wpAny (model P w) A (pyNext (.ref a)) Q E s := by
  unfold pyNext; refine wpAny_bind (wpAny_attempt (wpAny_callSpecial?_slot (name := Str.ofString "__next__") hg.typeIs slot_gen_next (wpAny_call_entry slot_gen_next hg.typeIs entry_gen_next ?_ (args_gen_next _))))
  show wpAny _ A.in1 (Builtin.Generator.genWake (.ref a) (.send .none)) _ _ s; unfold Builtin.Generator.genWake; refine wpAny_bind (wpAny_holding (wpAny_genNumber hg (wpAny_bind (wpAny_genState hgs ?_))))
  cases gs with
  | running => exact hgo.elim
  | finished => exact hgo.elim
  | _ =>
  refine wpAny_bind (wpAny_roomToWake hl hroom ?_); show wpAny _ A.in1 (.resume g (.send .none) [] _) _ _ s; refine resume_s hgs hgo (fun x s1 hx => ?_) (fun v s1 gs' hb hu hv => wpAny_pure ⟨v, rfl, wpAny_pure (hY v s1 gs' hb hu hv)⟩)
  rcases hx with ⟨hr, hp⟩ | ⟨e, rfl, he⟩
  · have hres : End.result (.ret x) = .returned .none := by rcases hr with hr | hr <;> (rw [hr]; rfl)
    simp only [hres]; show wpAny _ A.in1 (newExc (.type "StopIteration") [] >>= _) _ _ _; refine wpAny_bind ?_; simp only [newExc, newTuple]; refine wpAny_bind (wpAny_newObj_type ?_ (by size_fits)); refine wpAny_bind (m := firstArgMember _ _) (wpAny_of_eq (a := Value.none) (by first | rfl | (simp only [firstArgMember]; rfl)) ?_)
    refine wpAny_newObj_type ?_ (by size_fits); simp only [raiseNew]; refine wpAny_bind (wpAny_bind (wpAny_handled ?_)); first | rw [show A.in1.handled = none from hh] | rw [hh]
    refine wpAny_throw ?_; refine wpAny_bind (wpAny_isInstance (T := "StopIteration") (b := true) ⟨_, Heap.get?_push_size _ rfl, rfl⟩ isSubtype_stop ?_); exact wpAny_pure (hP s1 hp _ fun b o hb => Heap.get?_push_of_some _ (Heap.get?_push_of_some _ hb))
  · obtain ⟨hg1, hns, hq⟩ := hE e s1 he; obtain ⟨o, nm, qn, ho, hc, hd, hsl⟩ := hg1; show wpAny _ A.in1 (Builtin.Generator.genLeft (.ref a) e) _ _ _; unfold Builtin.Generator.genLeft Builtin.Generator.madeByALambda
    refine wpAny_bind (wpAny_bind (wpAny_load (o := o) ho (wpAny_pure ?_))); refine wpAny_bind (hns _ _ _ _ rfl ?_); rw [Bool.and_false, if_neg Bool.false_ne_true]; unfold Builtin.Generator.genEscaped
    first | refine wpAny_bind (hns _ _ _ _ rfl ?_) | refine wpAny_bind (wpAny_pure (wpAny_bind (hns _ _ _ _ rfl ?_)))
    rw [if_pos (show (!false) = true from rfl)]; first | refine wpAny_throw ?_ | refine wpAny_bind (wpAny_throw ?_)
    refine wpAny_bind (hns _ _ _ _ rfl ?_); rw [if_neg Bool.false_ne_true]; exact wpAny_throw hq
/-- the consumer's frame behind a turn of a generator whose frame is at L -/
theorem inv_back {X : Cx} {pins pins' : List (Addr × Obj)} {σ : St} {H0 H1 : Hp} {sw s0 s1 : Shared} {L : Addr} (I : Inv X pins σ H0 sw) (agree : ∀ b, b < L → s0.heap.get? b = sw.heap.get? b) (os1 : s1.os = sw.os) (un : Un (frs X.stack) [] H0 H1 s0.heap s1.heap) (hok : HOk X.prog X.w H1 s1.heap) (bare : AllBare s1.gens)
    (yL : X.env.locals < L) (yC : ∀ x c, X.env.cells.lookup x = some c → c < L) (hp : ∀ p ∈ X.pn ++ pins', s1.heap.get? p.1 = some p.2 ∧ H1 p.1 = none ∧ p.1 ≠ X.env.locals ∧ p.1 ∉ X.fs ∧ ∀ v, p.2.data ≠ .cell v) : Inv X pins' σ H1 s1 := by
  have lt : ∀ {b : Addr} {o : Obj}, X.s_0.heap.get? b = some o → b < X.env.locals := fun e => Nat.lt_of_lt_of_le (Heap.lt_size e) I.ok.above
  have ltL : ∀ {b : Addr} {o : Obj}, X.s_0.heap.get? b = some o → b < L := fun e => Nat.lt_trans (lt e) yL
  have nst : ∀ {b : Addr} {o : Obj}, X.s_0.heap.get? b = some o → b ∉ X.fs → b ∉ frs X.stack := fun {b o} e hb z => by
    rcases List.mem_cons.mp (I.stkSub b z) with y | y
    · exact absurd (lt e) (by rw [y]; exact Nat.lt_irrefl _)
    · exact hb y
  have any : ∀ {b : Addr} {o : Obj}, b < L → sw.heap.get? b = some o → H0 b = none → ∃ sl, s1.heap.get? b = some { o with slots := sl } := fun hb e n => un.any ((agree _ hb).trans e) n (by simp)
  have cellK : ∀ {x : Str} {c : Addr} {w : Option Value}, X.env.cells.lookup x = some c → sw.heap.IsCell c w → s1.heap.IsCell c w := fun {x c w} e ⟨o, ho, hd⟩ => by
    obtain ⟨sl, h⟩ := any (yC x c e) ho (I.freeC x c e)
    exact ⟨_, h, hd⟩
  refine ⟨I.ok, os1.trans I.os, bare, ⟨fun b o e n hb hx => ?_, fun b o e n hb hx => ?_, fun b o e n hx => ?_, fun b o e hx => ?_, fun b xs e => un.tups b xs (I.base.tups b xs e), fun b o u e => un.frzs b o u (I.base.frzs b o u e), fun b ps e => ?_⟩, ?_, fun x c e => ?_, ?_, fun x c e => ?_, hp, hok, I.len⟩
  · exact un.keep b o ((agree b (ltL e)).trans (I.base.keep b o e n hb hx)) (I.base.free b o e n hx) (nst e hb) (by simp)
  · obtain ⟨sl, e1⟩ := I.base.slot b o e n hb hx
    obtain ⟨sl2, e2⟩ := any (ltL e) e1 (I.base.free b o e n hx)
    exact ⟨sl2, e2⟩
  · obtain ⟨o', e1⟩ := I.base.there b o e hx
    exact un.free b o' ((agree b (ltL e)).trans e1) (I.base.free b o e n hx) (by simp)
  · obtain ⟨o', e1⟩ := I.base.there b o e hx
    exact un.there b o' ((agree b (ltL e)).trans e1) (by simp)
  · obtain ⟨m1, e1⟩ := I.base.tbls b ps e
    obtain ⟨m2, e2⟩ := un.tbls b _ e1
    exact ⟨m1 ++ m2, by rw [e2, Array.append_assoc]⟩
  · obtain ⟨m, ⟨o, es, ep, ho, r⟩, hl⟩ := I.loc
    obtain ⟨sl, e1⟩ := any yL ho I.free
    refine ⟨m, ⟨_, es, ep, e1, r⟩, fun i x v h1 h2 h3 => ?_⟩
    obtain ⟨u, ru, lk⟩ := hl i x v h1 h2 h3
    exact ⟨u, ru, lk.elim .inl fun ⟨k, c, e, z⟩ => .inr ⟨k, c, e, cellK e z⟩⟩
  · obtain ⟨v, z⟩ := I.cell x c e
    exact ⟨v, cellK e z⟩
  · obtain ⟨m, ⟨o, _, _, ho, _⟩, _⟩ := I.loc
    exact un.free _ o ((agree _ yL).trans ho) I.free (by simp)
  · obtain ⟨v, o, ho, _⟩ := I.cell x c e
    exact un.free c o ((agree c (yC x c e)).trans ho) (I.freeC x c e) (by simp)
/-! ### the closure -/
/-- an expression whose value is a generator that has not begun -/
structure PYG (X : Cx) (S : Js J) (k : Nat) (y : Yv J) (n : Nat) (e : Expr) (t : TA) : Prop where
  run : ∀ (pins : List (Addr × Obj)) (s : Shared) (σ : St) (H : Hp) (Q : List V → Hp → Prop), Inv X pins σ H s → t σ H Q →
    wpAny (model X.prog X.w) X.A (eval e X.env) (fun u s' => ∃ vs H1 sc, s.gens.size ≤ sc.gens.size ∧ Inv X pins σ H1 sc ∧ YMade X.prog X.w S X.mg X.base k y n X.stack H1 sc vs u s' ∧ Q vs H1) X.xe s
theorem thz {α : Type} {M : Model} {A : Around} {t : Sem α} {Q Q' : α → Shared → Prop} {E : Value → Shared → Prop} {s : Shared} {nz : Nat} (h : wpAny M A t Q E s) (hz : nz ≤ s.gens.size) (q : ∀ a s', nz ≤ s'.gens.size → Q a s' → Q' a s') : wpAny M A t Q' E s :=
  wpAny_gsz hz (wpAny_mono h (fun a s' z w => q a s' w z) fun _ _ z _ => z)
def gC (i : Nat) (mOf : List D → Sd) (fb : Sv J) (P : Fl → Sd → J → Prop) (E : XP J) : YDt J where
  yl := fun ds j k => ∃ d ds', ds = ds' ++ [d] ∧ fb ((mOf ds').set i (some d)) j (turnS (fun m2 j2 => m2 = mOf ds ∧ k j2) P) E
  dn := fun ds j => P .next (mOf ds) j
  xc := fun ds e j => ds = [] ∧ E e (mOf []) j
def sForG (i : Nat) (y : Yv J) (n : Nat) (fr : Av J) (fb : Sv J) (m : Sd) (j : J) (P : Fl → Sd → J → Prop) (E : XP J) : Prop :=
  fr m j (fun ds0 j1 => ∃ mOf : List D → Sd, mOf [] = m ∧ y (gC i mOf fb P E) (fun _ ds j => P .next (mOf ds) j) (startD n ds0) [] j1) E
instance {i n : Nat} {y : Yv J} {fr : Av J} {fb : Sv J} [h1 : MoA fr] [h2 : MoY y] [h3 : MoS fb] : MoS (sForG i y n fr fb) :=
  ⟨fun h q x => h1.mo h (fun _ _ ⟨mOf, e, p⟩ => ⟨mOf, e, h2.mo p (fun _ _ _ _ kk ⟨d, ds', e, p⟩ => ⟨d, ds', e, h3.mo p (turnS_mo (fun _ _ p => ⟨p.1, kk _ p.2⟩) q) x⟩) (fun _ _ _ p => ⟨p.1, x _ _ _ p.2⟩) fun _ _ _ p => q _ _ _ p⟩) x⟩
/-- the consumer's record -/
def CW (X : Cx) (S : Js J) (BC : Bs) (M : Nat → Bool) (pins : List (Addr × Obj)) (L : Addr) (sc : Shared) (B1 : Bs) (g : Gh) (mOf : List D → Sd) (ds : List D) (s0 : Shared) (B : Bs) : Prop :=
  ∃ sw σ' g' j', (∀ b, b < L → s0.heap.get? b = sw.heap.get? b) ∧ s0.os = sw.os ∧ (ds = [] → B = B1 ∧ s0.os = sc.os ∧ ∀ b o, sc.heap.get? b = some o → s0.heap.get? b = some o) ∧ Inv X pins σ' B.H0 sw ∧ Ok S BC g' M σ' B.H0 (mOf ds) j' ∧ B = ⟨g'.F, B.H0, g'.A⟩ ∧ Same g.F g'.F
theorem cx_base {P : Program} {w : World} {outer : List Env} {H : Hp} {s0 sc s : Shared} {E : XK} {e : Value} (c : CX P w outer H s0 E e s) (k : ∀ b o, sc.heap.get? b = some o → s0.heap.get? b = some o) (os : s0.os = sc.os) : CX P w outer H sc E e s := by
  obtain ⟨a, B, H', cls, d, z1, fl, z2, ub, z3, z4, z5, z6⟩ := c
  exact ⟨a, B, H', cls, d, z1, fl, z2, ⟨fun b o e => ub.keep b o (k b o e), fun b o e => ub.slot b o (k b o e), fun b o e => ub.free b o (k b o e), fun b o e => ub.there b o (k b o e), ub.tups, ub.frzs, ub.tbls⟩, z3, z4.trans os, z5, z6⟩
theorem notStopG {K : PySem.W.Frag} {S : Js J} (hns : ∀ c, PySem.W.subIn K (.ref (S.xc c)) (.type "StopIteration") = some false) {C : YCx J} {ds : List D} {B : Bs} : NoStop K (EW S C ds B) := fun cls d H ⟨e, j', F', A', h1, h2, h3⟩ => by rw [h3.1]; exact hns _
section
variable {X : Cx} {S : Js J} {BC : Bs} {M : Nat → Bool} {W : WX} {iter : Expr} {body : List Stmt} {x : Str} {xp pos : Pos} {i n k : Nat} {y : Yv J} {fr : Av J} {fb : Sv J}
theorem s_forG_core (hp : PassesOwn (model X.prog X.w) X.A X.env X.xe) (tk : Takes X W) (hK : X.K = S.K) (hst : X.stack = X.env :: X.outer) (hfr : X.env.frame = some X.env.locals) (hex : X.ex = []) (hc : X.calm = true) (hns : ∀ c, PySem.W.subIn X.K (.ref (S.xc c)) (.type "StopIteration") = some false)
    (hr : Room (k + 2) X.A) (hgd : X.A.guards = some []) (hM : M i = false) (hN : X.N.Nodup) (hi : X.N[i]? = some x) (hloc : X.env.scope.names.lookup x = some .local) (hg : PYG X S k y n iter (rdA S BC M W true fr)) (hb : PSs X body (rdS S BC M W fb)) (hxs : Still X.xe)
    (hs : ∀ z, foldedSetIterable iter X.env z = pure z) {pins : List (Addr × Obj)} {s : Shared} {σ : St} {H : Hp} {En : Ends} (I : Inv X pins σ H s) (hgF : GFr s.gens) (hrd : rdS S BC M W (sForG i y n fr fb) En σ H) : wpAny (model X.prog X.w) X.A (exec (.For (.Name x xp) iter body [] pos) X.env) (fun f s' => SP X pins En f s') X.xe s := by
  obtain ⟨g, m, j, P, Ep, ok, hf, q, xo⟩ := hrd
  refine wpAny_For (wpAny_gf hgF (wpAny_mono (hg.run pins s σ H (fun vs H1 => ∃ ds j1 g1, Le g g1 ∧ Ok S BC g1 M σ H1 m j1 ∧ RpL S g1.F ds vs ∧ ∃ mOf : List D → Sd, mOf [] = m ∧ y (gC i mOf fb P Ep) (fun _ ds j => P .next (mOf ds) j) (startD n ds) [] j1) I ⟨g, m, j, _, Ep, ok, hf, fun ds j1 g1 vs H1 p l ok1 w => ⟨ds, j1, g1, l, ok1, w, p⟩, xo⟩) (fun u s1 h1 hgF1 => ?_) fun _ _ z _ => z)) hs
  obtain ⟨vs, H1, sc, _, I1, made, ds0, j1, g1, l1, ok1, rv, mOf, hm0, hy⟩ := h1
  obtain ⟨a, gn, c, go, GN, Gq, Gsc, Gf, Gcd, rfl, aL, aS, isg, ego, hgen, ngo, hfresh, os1, bare1, glt, kp1, wake⟩ := made
  refine wpAny_pyIter_gen isg ?_
  have hh : X.A.handled = none := I1.ok.hd hc
  have hfs : frs X.stack = X.env.locals :: X.fs := by rw [hst]; unfold frs; rw [List.filterMap_cons, hfr]; rfl
  -- what is older than the generator's frame
  have yL : X.env.locals < sc.heap.objs.size := I1.lt
  have yC : ∀ x c, X.env.cells.lookup x = some c → c < sc.heap.objs.size := fun x c e => by obtain ⟨v, o, ho, _⟩ := I1.cell x c e; exact Heap.lt_size ho
  have yfs : ∀ b ∈ X.fs, b < sc.heap.objs.size := fun b hb => by obtain ⟨_, o, ho, _⟩ := I1.funs.mem hb; exact Heap.lt_size ho
  have yp : ∀ p ∈ X.pn ++ pins, p.1 < sc.heap.objs.size := fun p hp => Heap.lt_size (I1.pin p hp).1
  let C : YCx J := { gC i mOf fb P Ep with W := CW X S BC M pins sc.heap.objs.size sc ⟨g1.F, H1, g1.A⟩ g mOf }
  let G : GP := GP.mk X.prog X.w S.K X.mg X.base GN Gq Gsc Gf Gcd X.A.in1 X.stack sc.heap.objs.size [(a, go)] gn
  have hr1 : Room k X.A.in1 := ⟨hr.hd, by have := hr.dp; show X.A.depth + 3 * k + 5 < _; omega, by have := hr.un; show X.A.units + 1 + 16 * k + 200 < _; omega⟩
  have I1s := I1.call' (s' := s1.setGen gn .running) (ch := []) os1 (Un.kept kp1) (I1.hok.kept kp1) (allBare_setGen bare1 rfl) fun b z => by simp at z
  have started := wake X.A.in1 (s1.setGen gn .running) C ⟨g1.F, H1, g1.A⟩ j1 ds0 hr1 hgd (by rw [setGen_size]; exact (Array.getElem?_eq_some_iff.mp hfresh).1) (GFr.set hgF1 trivial) ⟨I1s.ok.frames, by rw [← hK]; exact I1s.ok.mod, I1s.bs, Nat.le_trans I1s.ok.bsz I1s.sz, I1s.stack, I1s.stkFree, I1s.hok, I1s.bare⟩ (fun _ _ _ e => e) (I1.hok.fresh (Nat.le_refl _)) (I1.hok.fresh (Nat.le_of_lt aL)) ⟨ok1.b.fg.trans ok1.b.gh, fun b o e => ok1.b.ga b o (ok1.b.fg b o e), ok1.b.jr, ok1.b.sm, rv⟩
    ⟨s1.setGen gn .running, σ, g1, j1, fun b hb => cut_get hb, rfl, fun _ => ⟨rfl, os1, fun b o e => (cut_get (Heap.lt_size e)).trans (kp1 b o e)⟩, I1s, by rw [hm0]; exact ok1, rfl, l1.f⟩ hy
  obtain ⟨good, seg0⟩ := started
  -- the consumer's frame behind a turn
  have back : ∀ {ds : List D} {s0 : Shared} {B : Bs} {pinsG : List (Addr × Obj)} {gpG : Gp} {σG : St} {gG : Gh} {HG : Hp} {mG : Sd} {jG : J} {s2 : Shared}, GAt G S C ds s0 B pinsG gpG σG gG HG mG jG s2 →
      ∃ oL σ' gc, Inv X ((a, go) :: (sc.heap.objs.size, oL) :: (pinsG ++ pins)) σ' HG s2 ∧ Ok S BC gc M σ' HG (mOf ds) jG ∧ Same gG.F gc.F ∧ Same g.F gc.F ∧ s2.heap.get? sc.heap.objs.size = some oL := by
    intro ds s0 B pinsG gpG σG gG HG mG jG s2 at1
    obtain ⟨sw, σ', g', j', agree, os0, _, Iw, okw, eB, sub⟩ := at1.wr
    have un : Un (frs X.stack) [] B.H0 HG s0.heap s2.heap := at1.inv.base
    obtain ⟨mL, ⟨oL, es, ep, hoL, hdL, _⟩, _⟩ := at1.inv.loc
    have hoL : s2.heap.get? sc.heap.objs.size = some oL := hoL
    have neL : ∀ b, sc.heap.objs.size ≤ b → b ≠ X.env.locals ∧ b ∉ X.fs := fun b hb => ⟨fun z => by rw [z] at hb; exact absurd (Nat.lt_of_lt_of_le yL hb) (Nat.lt_irrefl _), fun z => absurd (Nat.lt_of_lt_of_le (yfs b z) hb) (Nat.lt_irrefl _)⟩
    have Ib : Inv X ((a, go) :: (sc.heap.objs.size, oL) :: (pinsG ++ pins)) σ' HG s2 := by
      refine inv_back Iw agree (at1.inv.os.trans os0) un at1.inv.hok at1.inv.bare yL yC fun p hp => ?_
      have old : p ∈ X.pn ++ pins → s2.heap.get? p.1 = some p.2 ∧ HG p.1 = none ∧ p.1 ≠ X.env.locals ∧ p.1 ∉ X.fs ∧ ∀ v, p.2.data ≠ .cell v := fun hp => by
        obtain ⟨p1, p2, p3, p4, p5⟩ := Iw.pin p hp
        have p6 : p.1 ∉ frs X.stack := by rw [hfs]; exact fun z => (List.mem_cons.mp z).elim p3 p4
        have p7 := (agree _ (yp p hp)).trans p1
        exact ⟨un.keep _ _ p7 p2 p6 (by simp), un.free _ _ p7 p2 (by simp), p3, p4, p5⟩
      rcases List.mem_append.mp hp with hp | hp
      · exact old (List.mem_append_left _ hp)
      rcases List.mem_cons.mp hp with hp | hp
      · obtain ⟨p1, p2, _, _, _⟩ := at1.inv.pin (a, go) (List.mem_append_left _ (List.mem_singleton.mpr rfl))
        rw [hp]
        exact ⟨p1, p2, (neL a (Nat.le_of_lt aL)).1, (neL a (Nat.le_of_lt aL)).2, ngo⟩
      rcases List.mem_cons.mp hp with hp | hp
      · rw [hp]
        exact ⟨hoL, at1.inv.free, (neL _ (Nat.le_refl _)).1, (neL _ (Nat.le_refl _)).2, fun v z => by rw [hdL] at z; cases z⟩
      rcases List.mem_append.mp hp with hp | hp
      · obtain ⟨p1, p2, _, p4, p5⟩ := at1.inv.pin p (List.mem_append_right _ hp)
        have p4 : p.1 ∉ frs X.stack := p4
        rw [hfs] at p4
        exact ⟨p1, p2, fun z => p4 (by rw [z]; exact List.mem_cons_self), fun z => p4 (List.mem_cons_of_mem _ z), p5⟩
      · exact old (List.mem_append_right _ hp)
    have pp := okb_post at1.ok.b
    rw [eB] at pp
    obtain ⟨le, okc⟩ := post_clean okw.b pp
    exact ⟨oL, σ', _, Ib, ⟨okc, okw.s.le le⟩, at1.ok.b.fg, sub.trans le.f, hoL⟩
  refine codeAny_forLoop (fun q s3 => ∃ gs, s3.gens[gn]? = some gs ∧ gs.Goes (model X.prog X.w) X.A.in1 (YR G S C) (YP G S C) q (.send .none) (s3.setGen gn .running) ∧ s3.heap.NoLimit ∧ s3.heap.IsGen a gn ∧ GFr s3.gens) ?_ sizeLine ⟨_, hfresh, ⟨rfl, seg0⟩, I1.nolimit.keeps kp1, isg, hgF1⟩
  rintro qn s3 ⟨gs, hgs, hgo, hlim, hig, hgF3⟩
  have hgl : gn < s3.gens.size := (Array.getElem?_eq_some_iff.mp hgs).1
  refine wpAny_passesOwn hp (wpAny_gsz (n := gn + 1) hgl (wpAny_gf hgF3 (next_s (Y := YP G S C) (F := fun n _ s2 => ∃ ds s0 B pins gp σ g H m j, GAt G S C ds s0 B pins gp σ g H m j s2 ∧ C.dn ds j ∧ n + ds.length = sizeLine)
    (Er := fun e s2 => ∃ ds s0 B, C.W ds s0 B ∧ CX G.P G.w G.outer B.H0 s0 (EW S C ds B) e s2 ∧ ∀ p ∈ G.pn, s2.heap.get? p.1 = some p.2) hh hlim hr.depth hig hgs hgo (fun v s2 gs' hb' hu' hv => ?_) (fun s2 hp' h' hk => ?_) fun e s2 he => ?_)))
  · obtain ⟨ds, d, jG, kk, s0, B, pinsG, gpG, σG, gG, HG, mG, vv, hcnt, rvv, rpd, at1, ⟨d', ds', hds, hbody⟩, hkap⟩ := hv
    obtain ⟨rfl, e2⟩ := List.append_inj' hds rfl
    obtain rfl : d = d' := by simpa using e2
    intro hgF4 hsz
    have hsz2 : gn < s2.gens.size := by
      have e := setGen_size s2 gn gs'
      rw [e] at hsz
      exact hsz
    obtain ⟨oL, σ', gc, I2, ok2, sub1, sub2, hoL⟩ := back at1
    have I3 := I2.call' (s' := s2.setGen gn gs') (ch := []) rfl Un.refl I2.hok (allBare_setGen I2.bare hb') fun b z => by simp at z
    refine wpAny_assign_Name (wpAny_passesOwn hp (wpAny_mono (store_g I3 hN hi hloc rvv) (fun _ s4 h4 => ?_) fun _ _ z => z))
    obtain ⟨I4, eg4⟩ := h4
    have ok4 : Ok S BC gc M (σ'.set i (some vv)) HG ((mOf ds).set i (some d)) jG := ⟨ok2.b, ok2.s.set_fr hM (rpd.mono sub1)⟩
    refine wpAny_passesOwn hp (wpAny_gf (by rw [eg4]; exact hgF4) (wpAny_mono (pss_still hb hxs (D := { nx := fun r H' => ∃ g5 j5, Same gc.F g5.F ∧ Ok S BC g5 M r H' (mOf (ds ++ [d])) j5 ∧ kk j5, ct := fun r H' => ∃ g5 j5, Same gc.F g5.F ∧ Ok S BC g5 M r H' (mOf (ds ++ [d])) j5 ∧ kk j5, bk := En.nx, rt := En.rt }) I4 ⟨gc, _, jG, _, Ep, ok4, hbody, fun fl m' j' p => ?_, xo.le sub2⟩) (fun f s5 h5 hgF5 => ?_) fun _ _ z _ => z))
    · cases fl with
      | next => exact fun g5 r5 H5 l5 ok5 => ⟨g5, j', l5, p.1 ▸ ok5, p.2⟩
      | cnt => exact fun g5 r5 H5 l5 ok5 => ⟨g5, j', l5, p.1 ▸ ok5, p.2⟩
      | brk => exact fun g5 r5 H5 l5 ok5 => q _ _ _ p g5 r5 H5 (sub2.trans l5) ok5
      | ret dd => exact q _ _ _ p
    obtain ⟨h5, eg5⟩ := h5
    have unpin : ∀ {σ5 : St} {H5 : Hp} {s6 : Shared}, Inv X ((a, go) :: (sc.heap.objs.size, oL) :: (pinsG ++ pins)) σ5 H5 s6 → Inv X pins σ5 H5 s6 := fun I6 => I6.pins_of fun p hp => I6.pin p (List.mem_append_right _ (List.mem_cons_of_mem _ (List.mem_cons_of_mem _ (List.mem_append_right _ hp))))
    have again : ∀ {σ5 : St} {H5 : Hp}, Inv X ((a, go) :: (sc.heap.objs.size, oL) :: (pinsG ++ pins)) σ5 H5 s5 → (∃ g5 j5, Same gc.F g5.F ∧ Ok S BC g5 M σ5 H5 (mOf (ds ++ [d])) j5 ∧ kk j5) →
        ∃ q', q' < qn ∧ ∃ gs, s5.gens[gn]? = some gs ∧ gs.Goes (model X.prog X.w) X.A.in1 (YR G S C) (YP G S C) q' (.send .none) (s5.setGen gn .running) ∧ s5.heap.NoLimit ∧ s5.heap.IsGen a gn ∧ GFr s5.gens := by
      rintro σ5 H5 I5 ⟨g5, j5, l5, ok5, k5⟩
      have eg : s5.gens[gn]? = some gs' := eg5 gn gs' (by rw [eg4]; exact setGen_at hsz2) hu'
      have I6 := I5.call' (s' := s5.setGen gn .running) (ch := []) rfl Un.refl I5.hok (allBare_setGen I5.bare rfl) fun b z => by simp at z
      have pL := I6.pin (sc.heap.objs.size, oL) (List.mem_append_right _ (List.mem_cons_of_mem _ List.mem_cons_self))
      have pA := I6.pin (a, go) (List.mem_append_right _ List.mem_cons_self)
      have wk : GWake G S pinsG gpG s2 gG (s5.setGen gn .running) ⟨g5.F, H5, g5.A⟩ j5 :=
        { e0 := ⟨I6.ok.frames, by show Mod S.K X.mg X.base; rw [← hK]; exact I6.ok.mod, I6.bs, Nat.le_trans I6.ok.bsz I6.sz, I6.stack, I6.stkFree, I6.hok, I6.bare⟩
          loc := fun o ho => by
            have ho : s2.heap.get? sc.heap.objs.size = some o := ho
            rw [hoL] at ho; cases ho
            exact pL.1
          nL := pL.2.1
          pin := fun p hp => by
            have hp : p ∈ [(a, go)] ++ pinsG := hp
            rcases List.mem_append.mp hp with hp | hp
            · rw [List.mem_singleton.mp hp]; exact ⟨pA.1, pA.2.1⟩
            · have z := I6.pin p (List.mem_append_right _ (List.mem_cons_of_mem _ (List.mem_cons_of_mem _ (List.mem_append_left _ hp))))
              exact ⟨z.1, z.2.1⟩
          sub := sub1.trans l5
          fh := ok5.b.fg.trans ok5.b.gh
          fa := fun b o e => ok5.b.ga b o (ok5.b.fg b o e)
          jr := ok5.b.jr
          sm := ok5.b.sm
          own := by rw [setGen_size]; exact (Array.getElem?_eq_some_iff.mp eg).1
          gk := fun p hp => by
            obtain ⟨z1, z2, z3⟩ := at1.gk p hp
            refine ⟨?_, z2, z3⟩
            rw [setGen_ne (Nat.ne_of_gt z3)]
            exact eg5 _ _ (by rw [eg4, setGen_ne (Nat.ne_of_gt z3)]; exact z1) z2
          gf := GFr.set hgF5 trivial }
      have wr : CW X S BC M pins sc.heap.objs.size sc ⟨g1.F, H1, g1.A⟩ g mOf (ds ++ [d]) (cutS (s5.setGen gn .running) sc.heap.objs.size) ⟨g5.F, H5, g5.A⟩ := ⟨s5.setGen gn .running, σ5, g5, j5, fun b hb => cut_get hb, rfl, fun z => by simp at z, unpin I6, ok5, rfl, sub2.trans l5⟩
      have goes := hkap _ ⟨g5.F, H5, g5.A⟩ j5 wk wr k5
      cases qn with
      | zero => exact goes.elim
      | succ q' => exact ⟨q', Nat.lt_succ_self _, gs', eg, goes, I5.nolimit, hgen _ pA.1, hgF5⟩
    cases f with
    | next => obtain ⟨σ5, H5, I5, h5⟩ := h5; exact again I5 h5
    | cont => obtain ⟨σ5, H5, I5, h5⟩ := h5; exact again I5 h5
    | brk => obtain ⟨σ5, H5, I5, h5⟩ := h5; exact ⟨σ5, H5, unpin I5, h5⟩
    | ret u => obtain ⟨v5, σ5, H5, I5, r5, h5⟩ := h5; exact ⟨v5, σ5, H5, unpin I5, r5, h5⟩
  · obtain ⟨ds, s0, B, pinsG, gpG, σG, gG, HG, mG, jG, at1, hdn, _⟩ := hp'
    intro _ _
    obtain ⟨oL, σ', gc, I2, ok2, sub1, sub2, hoL⟩ := back at1
    have I3 : Inv X pins σ' HG { s2.setGen gn .finished with heap := h' } := (I2.call' (s' := { s2.setGen gn .finished with heap := h' }) (ch := []) rfl (Un.kept hk) (I2.hok.kept hk) (allBare_setGen I2.bare rfl) fun b z => by simp at z).pins_of fun p hp => by
      obtain ⟨z1, z2, z3, z4, z5⟩ := I2.pin p (List.mem_append_right _ (List.mem_cons_of_mem _ (List.mem_cons_of_mem _ (List.mem_append_right _ hp))))
      exact ⟨hk _ _ z1, z2, z3, z4, z5⟩
    exact wpAny_execs_nil ⟨σ', HG, I3, q _ _ _ hdn gc σ' HG sub2 ok2⟩
  · obtain ⟨ds, s0, B, wr, cx, hpn⟩ := he
    obtain ⟨a2, B2, H', cls, dx, ea, fl, hok2, ub, na, os2, ag, ex, j', F', A', ⟨hds, hE⟩, pp, exr⟩ := id cx
    subst hds
    obtain ⟨_, _, _, _, _, _, hs0, _⟩ := wr
    obtain ⟨rfl, os0, kb⟩ := hs0 rfl
    have kin : S.K.In s2.heap := hK ▸ I1.ok.mod.kin.keeps fun b o eb => fl.1 b o (ub.keep b o (kb b o (I1.bs b o eb).1) (I1.bs b o eb).2 fun hm => by
      have hm : b ∈ frs X.stack := hm
      rw [hfs] at hm
      rcases List.mem_cons.mp hm with z | z
      · have h1 := Heap.lt_size eb
        have h2 := Nat.le_trans I1.ok.bsz I1.ok.above
        rw [z] at h1
        exact absurd (Nat.lt_of_lt_of_le h1 h2) (Nat.lt_irrefl _)
      · exact I1.ok.nofr eb z)
    refine ⟨hgen _ (hpn (a, go) (List.mem_singleton.mpr rfl)), notStop_of (K := S.K) (notStopG (hK ▸ hns)) kin cx, fun _ _ => ?_⟩
    obtain ⟨le, okc⟩ := post_clean ok1.b pp
    refine passAt tk σ pins H1 sc e _ I1 (cx_base ?_ kb os0)
    exact ⟨a2, B2, H', cls, dx, ea, fl, hok2, ub, na, os2, allBare_setGen ag rfl, xo ex (mOf []) j' _ σ H' cls dx hE (l1.f.trans le.f) ⟨okc, by rw [hm0]; exact ok1.s.le le⟩ exr⟩
theorem s_forG (hp : PassesOwn (model X.prog X.w) X.A X.env X.xe) (tk : Takes X W) (hK : X.K = S.K) (hst : X.stack = X.env :: X.outer) (hfr : X.env.frame = some X.env.locals) (hex : X.ex = []) (hc : X.calm = true) (hns : ∀ c, PySem.W.subIn X.K (.ref (S.xc c)) (.type "StopIteration") = some false)
    (hr : Room (k + 2) X.A) (hgd : X.A.guards = some []) (hM : M i = false) (hN : X.N.Nodup) (hi : X.N[i]? = some x) (hloc : X.env.scope.names.lookup x = some .local) (hg : PYG X S k y n iter (rdA S BC M W true fr)) (hb : PSs X body (rdS S BC M W fb)) (hxs : Still X.xe)
    (hs : ∀ z, foldedSetIterable iter X.env z = pure z := by intro _; rfl) : PS X (.For (.Name x xp) iter body [] pos) (rdS S BC M W (sForG i y n fr fb)) := by
  refine ⟨fun pins s σ H En I h => ?_⟩
  refine wpAny_still I.bare hxs (fun T hT hgF => s_forG_core hp tk hK hst hfr hex hc hns hr hgd hM hN hi hloc hg hb hxs hs (I.call' (s' := { s with gens := T }) (ch := []) rfl Un.refl I.hok hT fun b z => by simp at z) hgF h) fun f s1 T' h1 hk hb2 _ => ?_
  have mv : ∀ {σ' : St} {H' : Hp}, Inv X pins σ' H' s1 → Inv X pins σ' H' { s1 with gens := T' } := fun {σ' H'} J => J.call' (s' := { s1 with gens := T' }) (ch := []) rfl Un.refl J.hok (hb2 J.bare) fun b z => by simp at z
  cases f with
  | next => obtain ⟨σ', H', J, q⟩ := h1; exact ⟨σ', H', mv J, q⟩
  | brk => obtain ⟨σ', H', J, q⟩ := h1; exact ⟨σ', H', mv J, q⟩
  | cont => obtain ⟨σ', H', J, q⟩ := h1; exact ⟨σ', H', mv J, q⟩
  | ret u => obtain ⟨v, σ', H', J, r, q⟩ := h1; exact ⟨v, σ', H', mv J, r, q⟩
/-! ### the call, the body's statements -/
theorem pyg_call {fn : Addr} {fd : FuncData} {ps : List Str} {f : Str} {p : Pos} {e : Expr} {es : List Expr} (F : YFn X.prog X.w S X.mg X.base k fn fd ps y n) (hK : X.K = S.K) (hr : Room k X.A) (hm : X.mg f = some (.ref fn)) (hk : PySem.W.keepIn X.K (.ref fn) = true) (hb : Binds X.K fd ps []) (hl : ∀ r H Q, rdA S BC M W true fr r H Q → rdA S BC M W true fr r H (fun vs H' => vs.length = ps.length ∧ Q vs H'))
    (ha : PA X (e :: es) (rdA S BC M W true fr)) (hg : Gl X f) (hdb : (f == ("__debug__" : Str)) = false) (he : starEach (e :: es) X.env = (false, eval e X.env) :: starEach es X.env) (hpl : (backTo pos (starEach es X.env)).any (·.1) = false) :
    PYG X S k y n (.Call (.Name f p) (e :: es) [] pos) (rdA S BC M W true fr) := by
  refine ⟨fun pins s σ H Q I h => ?_⟩
  refine wpAny_Call_Name_kw (ld_glob I hg hm ?_ hdb)
  refine PySem.W.callWith_K (h₀ := X.base) I.ok.mod.kin hk (wpAny_gsz (n := s.gens.size) (Nat.le_refl _) (wpAny_mono (ha.run pos pins s σ H _ I (hl _ _ _ h)) (fun us s1 h1 hgz => ?_) fun _ _ z _ => z)) he hpl
  obtain ⟨vs, H1, I1, r, hlen, q⟩ := h1
  refine ⟨I1.kIn, ?_⟩
  have e0 : Env0 X.prog X.w S.K X.mg X.base X.A X.stack s1 H1 := hK ▸ I1.env0
  have hb1 : BindsTo s1 fd ⟨us, []⟩ (ps.zip us) := by
    have b := hb s1 us I1.kIn (by rw [List.append_nil, ← r.length]; exact hlen)
    rw [List.append_nil] at b
    exact b
  refine wpAny_call (codeAny_mono (F.run X.A X.stack s1 H1 ⟨us, []⟩ us vs hr e0 hb1 r hlen) fun r2 s2 h2 => ?_)
  cases r2 with
  | error e => exact h2.elim
  | ok fl =>
    cases fl with
    | ret u => exact ⟨vs, H1, s1, hgz, I1, h2, q⟩
    | next => exact h2.elim
    | brk => exact h2.elim
    | cont => exact h2.elim
theorem rdA_len {k1 : Nat} (hf : ∀ m j P E, fr m j P E → fr m j (fun ds j' => ds.length = k1 ∧ P ds j') E) {r : St} {H : Hp} {Q : List V → Hp → Prop} (h : rdA S BC M W true fr r H Q) : rdA S BC M W true fr r H (fun vs H' => vs.length = k1 ∧ Q vs H') := by
  obtain ⟨g, m, j, P, E, ok, h1, q, xo⟩ := h
  exact ⟨g, m, j, _, E, ok, hf _ _ _ _ h1, fun ds j' g' vs H' p l ok' w => ⟨w.length ▸ p.1, q ds j' g' vs H' p.2 l ok' w⟩, xo⟩
end
end Mp

/-! OK: list(g), g a generator. -/
namespace Mp
open PySem PySem.Spec L2
open PyProof.Rows hiding St
open GenW
variable {J : Type}
def eListG (y : Yv J) (n : Nat) (fr : Av J) (m : Sd) (j : J) (P : D → J → Prop) (E : XP J) : Prop :=
  fr m j (fun ds0 j1 => y ⟨fun _ j k => k j, fun ds j => P (.lst ds) j, fun _ _ _ => False⟩ (fun _ ds j => P (.lst ds) j) (startD n ds0) [] j1) E
instance {y : Yv J} {n : Nat} {fr : Av J} [h1 : MoA fr] [h2 : MoY y] : MoE (eListG y n fr) :=
  ⟨fun h q x => h1.mo h (fun _ _ p => h2.mo p (fun _ _ _ _ kk p => kk _ p) (fun _ _ _ p => p) fun _ _ _ p => q _ _ p) x⟩
/-- the record of the one who fills the list at Sx -/
def LW (X : Cx) (S : Js J) (BC : Bs) (M : Nat → Bool) (pins : List (Addr × Obj)) (L Sx : Addr) (g : Gh) (σ : St) (m : Sd) (ds : List D) (s0 : Shared) (B : Bs) : Prop :=
  ∃ sw g' j' vs, (∀ b, b < L → s0.heap.get? b = sw.heap.get? b) ∧ s0.os = sw.os ∧ Inv X pins σ B.H0 sw ∧ Ok S BC g' M σ B.H0 m j' ∧ B = ⟨g'.F, B.H0, g'.A⟩ ∧ Le g g' ∧ B.H0 Sx = some (.lst vs) ∧ RpL S g'.F ds vs ∧ g'.G Sx = none ∧ ¬ g'.A Sx
section
variable {X : Cx} {S : Js J} {BC : Bs} {M : Nat → Bool} {W : WX} {iter : Expr} {xp pos p : Pos} {n k : Nat} {y : Yv J} {fr : Av J}
end
end Mp

/-! Q1: generator defs that may be called; for and list over them, for printed terms. -/
namespace Mp
open PySem PySem.Spec L2
open PyProof.Rows hiding St
open GenW
variable {J : Type}
/-- a generator def that may be called: its promise -/
structure CalY (S : Js J) (P : Program) (w : World) (mg : Str → Option Value) (base : Heap) (k : Nat) (x : Str) (np n : Nat) (y : Yv J) : Prop where
  ex : ∃ fn fd ps, YFn P w S mg base k fn fd ps y n ∧ mg x = some (.ref fn) ∧ PySem.W.keepIn S.K (.ref fn) = true ∧ Binds S.K fd ps [] ∧ ps.length = np
/-- .. with one keyword -/
structure CalYK (S : Js J) (P : Program) (w : World) (mg : Str → Option Value) (base : Heap) (k : Nat) (x : Str) (np : Nat) (kw : Str) (dv : D) (n : Nat) (y : Yv J) : Prop where
  ex : ∃ fn fd ps ds, YFn P w S mg base k fn fd ps y n ∧ mg x = some (.ref fn) ∧ PySem.W.keepIn S.K (.ref fn) = true ∧ Vals [dvV dv] ds ∧ Binds S.K fd ps ds ∧ ps.length = np + 1 ∧
    ∀ (s : Shared) (us ws : List Value), S.K.In s.heap → us.length = np → ws.length = 1 → BindsTo s fd ⟨us, [kw].zip ws⟩ (ps.zip (us ++ ws))
  cd : dvB dv = true
/-- so many arguments -/
class LenA (fr : Av J) (n : outParam Nat) : Prop where
  ln : ∀ {m : Sd} {j : J} {P : List D → J → Prop} {E : XP J}, fr m j P E → fr m j (fun ds j' => ds.length = n ∧ P ds j') E
instance : LenA (aNil (J := J)) 0 := ⟨fun p => ⟨rfl, p⟩⟩
instance {fa : Ev J} {fr : Av J} {n : Nat} [h1 : MoE fa] [h2 : MoA fr] [h3 : LenA fr n] : LenA (aCons fa fr) (n + 1) := ⟨fun h => h1.mo h (fun x j1 p => h2.mo (h3.ln p) (fun xs j2 q => ⟨by rw [List.length_cons, q.1], q.2⟩) fun _ _ _ z => z) fun _ _ _ z => z⟩
def aKw (fa : Av J) (fk : Ev J) : Av J := fun m j P E => fa m j (fun xs j1 => fk m j1 (fun y j2 => P (xs ++ [y]) j2) E) E
def aDf (dv : D) (fa : Av J) : Av J := fun m j P E => fa m j (fun xs j1 => P (xs ++ [dv]) j1) E
instance {fa : Av J} {fk : Ev J} [h1 : MoA fa] [h2 : MoE fk] : MoA (aKw fa fk) := ⟨fun h q x => h1.mo h (fun _ _ p => h2.mo p (fun _ _ p => q _ _ p) x) x⟩
instance {fa : Av J} {dv : D} [h1 : MoA fa] : MoA (aDf dv fa) := ⟨fun h q x => h1.mo h (fun _ _ p => q _ _ p) x⟩
section
variable {S : Js J} {B : Bs} {M : Nat → Bool} {W : WX} {X : Cx} {e ke : Expr} {es : List Expr} {pos p kpos xp : Pos} {fr : Av J} {fk : Ev J} {x kw f : Str} {k n np i : Nat} {dv : D} {y : Yv J} {iter : Expr} {body : List Stmt} {fb : Sv J}
/-- f(e, ..), f a generator def -/
theorem gCal (hK : X.K = S.K) (C : CalY S X.prog X.w X.mg X.base k f np n y) (hr : Room k X.A) (ha : PA X (e :: es) (rdA S B M W true fr)) [hl : LenA fr np] (hg : Gl X f := by rfl) (hdb : (f == ("__debug__" : Str)) = false := by decide)
    (he : starEach (e :: es) X.env = (false, eval e X.env) :: starEach es X.env := by rfl) (hpl : (backTo pos (starEach es X.env)).any (·.1) = false := by rfl) : PYG X S k y n (.Call (.Name f p) (e :: es) [] pos) (rdA S B M W true fr) := by
  obtain ⟨fn, fd, ps, F, h1, h2, h3, h4⟩ := C.ex
  exact pyg_call F hK hr h1 (hK ▸ h2) (hK ▸ h3) (fun r H Q h => by rw [h4]; exact rdA_len (fun m j P E z => hl.ln z) h) ha hg hdb he hpl
/-- behind the call of a generator def -/
theorem gAfter {fn : Addr} {fd : FuncData} {ps : List Str} {pins : List (Addr × Obj)} {σ : St} {H : Hp} {s : Shared} {args : Args} {us : List Value} {vs : List V} {Q : List V → Hp → Prop} (hK : X.K = S.K) (F : YFn X.prog X.w S X.mg X.base k fn fd ps y n) (hr : Room k X.A) (I : Inv X pins σ H s) (hb : BindsTo s fd args (ps.zip us)) (r : Vals vs us) (hl : vs.length = ps.length) (q : Q vs H) {nz : Nat} (hz : nz ≤ s.gens.size) :
    wpAny (model X.prog X.w) X.A (call (.ref fn) args.pos args.kw) (fun u s' => ∃ vs H1 sc, nz ≤ sc.gens.size ∧ Inv X pins σ H1 sc ∧ YMade X.prog X.w S X.mg X.base k y n X.stack H1 sc vs u s' ∧ Q vs H1) X.xe s := by
  have e0 : Env0 X.prog X.w S.K X.mg X.base X.A X.stack s H := hK ▸ I.env0
  refine wpAny_call (codeAny_mono (F.run X.A X.stack s H args us vs hr e0 hb r hl) fun r2 s2 h2 => ?_)
  cases r2 with
  | error e => exact h2.elim
  | ok fl =>
    cases fl with
    | ret u => exact ⟨vs, H, s, hz, I, h2, q⟩
    | next => exact h2.elim
    | brk => exact h2.elim
    | cont => exact h2.elim
theorem gCalK (hK : X.K = S.K) (C : CalYK S X.prog X.w X.mg X.base k f np kw dv n y) (hr : Room k X.A) (ha : PA X (e :: es) (rdA S B M W true fr)) (hk : PE X ke (rdE S B M W .clean fk)) [hl : LenA fr np] (hg : Gl X f := by rfl) (hdb : (f == ("__debug__" : Str)) = false := by decide)
    (hall : (backToKw pos (keywordEach [⟨some kw, ke, kpos⟩] X.env)).all (·.1.isSome) = true := by rfl) (hks : (backToKw pos (keywordEach [⟨some kw, ke, kpos⟩] X.env)).filterMap (·.1) = [kw] := by rfl) (he : starEach (e :: es) X.env = (false, eval e X.env) :: starEach es X.env := by rfl)
    (hpl : ((backTo pos (starEach (e :: es) X.env)).any (·.1) || (backToKw pos (keywordEach [⟨some kw, ke, kpos⟩] X.env)).any (·.1.isNone)) = false := by rfl) : PYG X S k y n (.Call (.Name f p) (e :: es) [⟨some kw, ke, kpos⟩] pos) (rdA S B M W true (aKw fr fk)) := by
  obtain ⟨fn, fd, ps, ds, F, h1, h2, h3, h4, h5, h6⟩ := C.ex
  refine ⟨fun pins s σ H Q I ⟨g, m, j, P, E, ok, hf, q, xo⟩ => ?_⟩
  refine wpAny_Call_Name_kw (ld_glob I hg h1 ?_ hdb)
  refine PySem.W.callWith_KW (h₀ := X.base) I.ok.mod.kin (hK ▸ h2) hall (thz (ha.run pos pins s σ H (fun vs H1 => ∃ xs j1 g1, Le g g1 ∧ Ok S B g1 M σ H1 m j1 ∧ RpL S g1.F xs vs ∧ xs.length = np ∧ fk m j1 (fun y j2 => P (xs ++ [y]) j2) E) I ⟨g, m, j, _, E, ok, hl.ln hf, fun xs j1 g1 vs H1 p1 l1 ok1 w1 => ⟨xs, j1, g1, l1, ok1, w1, p1⟩, xo⟩) (Nat.le_refl _) fun us s1 hz1 ⟨vs, H1, I1, r, xs, j1, g1, l1, ok1, w1, hx, p1⟩ => ?_) hpl he
  refine thz ((pk_cons hk pk_nil).run pos pins s1 σ H1 (fun zs H2 => ∃ v, zs = [v] ∧ ∃ y j2 g2, Le g1 g2 ∧ Ok S B g2 M σ H2 m j2 ∧ Rp S g2.F y v ∧ P (xs ++ [y]) j2) I1 ⟨g1, m, j1, _, E, ok1, p1, fun y j2 g2 v H2 p2 l2 ok2 w2 => ⟨v, rfl, y, j2, g2, l2, ok2, w2, p2⟩, xo.le l1.f⟩) hz1 fun ws s2 hz2 ⟨zs, H2, I2, rz, v, ez, y, j2, g2, l2, ok2, w2, p2⟩ => ⟨I2.kIn, ?_⟩
  subst ez
  rw [hks]
  have w3 : RpL S g2.F (xs ++ [y]) (vs ++ [v]) := (RpL.mono l2.f w1).append (.cons w2 .nil)
  have lv : vs.length = np := w1.length ▸ hx
  exact gAfter (args := ⟨us, [kw].zip ws⟩) hK F hr I2 (h6 s2 us ws (hK ▸ I2.kIn) (r.length.symm.trans lv) (rz.length.symm)) (r.append rz) (by rw [List.length_append, List.length_singleton, lv, h5]) (q _ _ _ _ _ p2 (l1.trans l2) ok2 w3) hz2
theorem gCalD (hK : X.K = S.K) (C : CalYK S X.prog X.w X.mg X.base k f np kw dv n y) (hr : Room k X.A) (ha : PA X (e :: es) (rdA S B M W true fr)) [hl : LenA fr np] (hg : Gl X f := by rfl) (hdb : (f == ("__debug__" : Str)) = false := by decide)
    (he : starEach (e :: es) X.env = (false, eval e X.env) :: starEach es X.env := by rfl) (hpl : (backTo pos (starEach es X.env)).any (·.1) = false := by rfl) : PYG X S k y n (.Call (.Name f p) (e :: es) [] pos) (rdA S B M W true (aDf dv fr)) := by
  obtain ⟨fn, fd, ps, ds, F, h1, h2, h3, h4, h5, h6⟩ := C.ex
  refine ⟨fun pins s σ H Q I ⟨g, m, j, P, E, ok, hf, q, xo⟩ => ?_⟩
  refine wpAny_Call_Name_kw (ld_glob I hg h1 ?_ hdb)
  refine PySem.W.callWith_K (h₀ := X.base) I.ok.mod.kin (hK ▸ h2) (thz (ha.run pos pins s σ H (fun vs H1 => ∃ xs j1 g1, Le g g1 ∧ Ok S B g1 M σ H1 m j1 ∧ RpL S g1.F xs vs ∧ xs.length = np ∧ P (xs ++ [dv]) j1) I ⟨g, m, j, _, E, ok, hl.ln hf, fun xs j1 g1 vs H1 p1 l1 ok1 w1 => ⟨xs, j1, g1, l1, ok1, w1, p1⟩, xo⟩) (Nat.le_refl _) fun us s1 hz1 ⟨vs, H1, I1, r, xs, j1, g1, l1, ok1, w1, hx, p1⟩ => ⟨I1.kIn, ?_⟩) he hpl
  have w3 : RpL S g1.F (xs ++ [dv]) (vs ++ [dvV dv]) := w1.append (.cons (dvR C.cd) .nil)
  have lv : vs.length = np := w1.length ▸ hx
  have r2 : Vals (vs ++ [dvV dv]) (us ++ ds) := r.append h3
  have e5 : (vs ++ [dvV dv]).length = ps.length := by rw [List.length_append, List.length_singleton, lv, h5]
  exact gAfter (args := ⟨us, []⟩) hK F hr I1 (h4 s1 us (hK ▸ I1.kIn) (by rw [← r2.length]; exact e5)) r2 e5 (q _ _ _ _ _ p1 l1 ok1 w3) hz1
/-- for x in f(..) -/
theorem zForG (i : Nat) (nd : X.N.Nodup) (hK : X.K = S.K) (tk : Takes X W) (hns : ∀ c, PySem.W.subIn S.K (.ref (S.xc c)) (.type "StopIteration") = some false) (hr : Room (k + 2) X.A) (hgd : X.A.guards = some []) (hg : PYG X S k y n iter (rdA S B M W true fr)) (hb : PSs X body (rdS S B M W fb)) (hp : PassesOwn (model X.prog X.w) X.A X.env X.xe) (hxs : Still X.xe)
    (hM : M i = false := by rfl) (hi : X.N[i]? = some x := by rfl) (hloc : X.env.scope.names.lookup x = some .local := by rfl) (hst : X.stack = X.env :: X.outer := by rfl) (hfr : X.env.frame = some X.env.locals := by rfl) (hex : X.ex = [] := by rfl) (hc : X.calm = true := by rfl)
    (hs : ∀ z, foldedSetIterable iter X.env z = pure z := by intro _; rfl) : PS X (.For (.Name x xp) iter body [] pos) (rdS S B M W (sForG i y n fr fb)) :=
  s_forG hp tk hK hst hfr hex hc (hK ▸ hns) hr hgd hM nd hi hloc hg hb hxs hs
end
/-! ### a generator def's promise -/
section
variable {P : Program} {w : World} {S : Js J} {mg : Str → Option Value} {base : Heap} {x qual : Str} {st : Stmt} {f : Addr} {fd : FuncData} {N ps : List Str} {k : Nat} {y : Yv J}
/-- what the text of its body must do -/
def YBody (P : Program) (w : World) (S : Js J) (mg : Str → Option Value) (base : Heap) (N : List Str) (qual : Str) (st : Stmt) (f : Addr) (k : Nat) (y : Yv J) : Prop :=
  ∀ (cdv : Value) (A : Around) (outer : List Env) (L : Addr) (pn : List (Addr × Obj)) (gn : Nat), (GP.mk P w S.K mg base N qual (defScope st) f cdv A outer L pn gn).Good → Room k (A.deeper (envOfC qual (defScope st) L f cdv)) → (A.deeper (envOfC qual (defScope st) L f cdv)).guards = some [] →
    YSs (GP.mk P w S.K mg base N qual (defScope st) f cdv A outer L pn gn) S (defBody st) y
theorem calY_of (F : L2.Fun S.K x qual st f fd) (Sc : GScope N ps (defScope st)) (hnc : ∀ z ∈ (defScope st).names, z.2 ≠ .cell) (hcl : ∀ n, cellsFrom n (defScope st).names [] = []) (hb : YBody P w S mg base N qual st f k y) (hm : mg x = some (.ref f)) (hbi : Binds S.K fd ps []) : CalY S P w mg base (k + 1) x ps.length N.length y :=
  ⟨f, fd, ps, yfn_of F Sc hnc hcl hb, hm, F.kp, hbi, rfl⟩
theorem calYK_of {kw : Str} {dv : D} {np : Nat} (F : L2.Fun S.K x qual st f fd) (Sc : GScope N ps (defScope st)) (hnc : ∀ z ∈ (defScope st).names, z.2 ≠ .cell) (hcl : ∀ n, cellsFrom n (defScope st).names [] = []) (hb : YBody P w S mg base N qual st f k y) (hm : mg x = some (.ref f)) (hbi : ∃ ds, Vals [dvV dv] ds ∧ Binds S.K fd ps ds) (hl : ps.length = np + 1)
    (hb2 : ∀ (s : Shared) (us ws : List Value), S.K.In s.heap → us.length = np → ws.length = 1 → BindsTo s fd ⟨us, [kw].zip ws⟩ (ps.zip (us ++ ws))) (hd : dvB dv = true) : CalYK S P w mg base (k + 1) x np kw dv N.length y := by
  obtain ⟨ds, h1, h2⟩ := hbi
  exact ⟨⟨f, fd, ps, ds, yfn_of F Sc hnc hcl hb, hm, F.kp, h1, h2, hl, hb2⟩, hd⟩
end
end Mp

/-! Q2: what generators hand out, on data. -/
namespace Mp
open PySem L2
variable {J : Type}
def WG (i : Nat) (y : Yv J) (n : Nat) (fb : Sv J) (ds0 : List D) (m : Sd) (j : J) (P : Fl → Sd → J → Prop) (E : XP J) (_t : Tg P E := .mk) : Prop :=
  ∃ mOf : List D → Sd, mOf [] = m ∧ y (gC i mOf fb P E) (fun _ ds j => P .next (mOf ds) j) (startD n ds0) [] j
def WGl (y : Yv J) (n : Nat) (ds0 : List D) (j : J) (P : D → J → Prop) (_t : Tg P True := .mk) : Prop :=
  y ⟨fun _ j k => k j, fun ds j => P (.lst ds) j, fun _ _ _ => False⟩ (fun _ ds j => P (.lst ds) j) (startD n ds0) [] j
section
variable {y y1 y2 yb : Yv J} {f fb : Sv J} {fe : Ev J} {tc : Tv J} {C : YDt J} {nx : Sd → List D → J → Prop} {m : Sd} {ds ds0 its : List D} {j : J} {i n : Nat} {fr : Av J} {P : D → J → Prop} {PS : Fl → Sd → J → Prop} {E : XP J} {PA : List D → J → Prop} {fk : Ev J} {dv : D}
@[simp ↓] theorem a_forG : sForG i y n fr fb m j PS E = fr m j (fun ds0 j1 => WG i y n fb ds0 m j1 PS E) E := rfl
@[simp ↓] theorem a_listG : eListG y n fr m j P E = fr m j (fun ds0 j1 => WGl y n ds0 j1 P) E := rfl
@[simp ↓] theorem a_kw : aKw fr fk m j PA E = fr m j (fun xs j1 => fk m j1 (fun y j2 => PA (xs ++ [y]) j2) E) E := rfl
@[simp ↓] theorem a_df : aDf dv fr m j PA E = fr m j (fun xs j1 => PA (xs ++ [dv]) j1) E := rfl
@[simp ↓] theorem a_ynil : yNil C nx m ds j = nx m ds j := rfl
@[simp ↓] theorem a_yseq : ySeq y1 y2 C nx m ds j = y1 C (fun m1 ds1 j1 => y2 C nx m1 ds1 j1) m ds j := rfl
@[simp ↓] theorem a_ypl : yPl f C nx m ds j = f m j (plainP nx ds) (fun e _ j' => C.xc ds e j') := rfl
@[simp ↓] theorem a_plainP : plainP nx ds .next m j = nx m ds j := rfl
@[simp ↓] theorem a_yyl : yYl fe C nx m ds j = (ds.length < LINE ∧ fe m j (fun d j1 => C.yl (ds ++ [d]) j1 (fun j2 => nx m (ds ++ [d]) j2)) (fun e _ j' => C.xc ds e j')) := rfl
def WYw (tc : Tv J) (yb : Yv J) (C : YDt J) (nx : Sd → List D → J → Prop) (m : Sd) (ds : List D) (j : J) (_t : Tg C nx := .mk) : Prop := yWhile tc yb C nx m ds j
@[simp ↓] theorem a_ywh : yWhile tc yb C nx m ds j = WYw tc yb C nx m ds j := rfl
/-- it hands out these, and ends -/
def Yields (y : Yv J) (m : Sd) (its : List D) : Prop := ∀ (C : YDt J) (nx : Sd → List D → J → Prop) (ds : List D) (j : J) (I : Nat → J → Prop), (∀ ds j k k', (∀ j', k j' → k' j') → C.yl ds j k → C.yl ds j k') →
  (∀ k j', k < its.length → I k j' → ds.length + k < LINE ∧ C.yl (ds ++ its.take (k + 1)) j' (I (k + 1))) → (∀ m' j', I its.length j' → nx m' (ds ++ its) j') → I 0 j → y C nx m ds j
/-- for over a generator, by its turns -/
theorem wG_items [hb : MoS fb] (h : Yields y (startD n ds0) its) (sl : Nat → Sd) (I : Nat → J → Prop) (e0 : sl 0 = m) (h0 : I 0 j)
    (hs : ∀ k d j, its[k]? = some d → I k j → k < LINE ∧ fb ((sl k).set i (some d)) j (turnS (fun m2 j2 => m2 = sl (k + 1) ∧ I (k + 1) j2) PS) E) (hd : ∀ j, I its.length j → PS .next (sl its.length) j) : WG i y n fb ds0 m j PS E := by
  refine ⟨fun ds => sl ds.length, e0, h _ _ [] j I (fun ds j k k' hk ⟨d, ds', e, p⟩ => ⟨d, ds', e, hb.mo p (turnS_mo (fun _ _ p => ⟨p.1, hk _ p.2⟩) fun _ _ _ z => z) fun _ _ _ z => z⟩) (fun k j' hk hi => ?_) (fun m' j' hi => ?_) h0⟩
  · obtain ⟨h1, h2⟩ := hs k its[k] j' (List.getElem?_eq_getElem hk) hi
    refine ⟨by simpa using h1, its[k], its.take k, by rw [List.nil_append, List.take_succ_eq_append_getElem hk], ?_⟩
    have l1 : (its.take k).length = k := by rw [List.length_take, Nat.min_eq_left (Nat.le_of_lt hk)]
    have l2 : (([] : List D) ++ its.take (k + 1)).length = k + 1 := by rw [List.nil_append, List.length_take, Nat.min_eq_left hk]
    show fb ((sl (its.take k).length).set i (some its[k])) j' (turnS (fun m2 j2 => m2 = sl (([] : List D) ++ its.take (k + 1)).length ∧ I (k + 1) j2) PS) E
    rw [l1, l2]
    exact h2
  · rw [List.nil_append]; exact hd _ hi
/-- list of a generator -/
theorem wGl_items (h : Yields y (startD n ds0) its) (hl : its.length ≤ LINE) (q : P (.lst its) j) : WGl y n ds0 j P := by
  refine h _ _ [] j (fun _ j' => j' = j) (fun _ _ _ _ hk z => hk _ z) (fun k j' hk e => ⟨by simp; omega, e⟩) (fun m' j' e => ?_) rfl
  rw [List.nil_append, e]; exact q
end
end Mp

/-! Q3: what generators hand out, put together. -/
namespace Mp
open PySem L2
variable {J : Type}
/-- it hands out these and ends with slots of which R holds -/
def YTo (y : Yv J) (m : Sd) (its : List D) (R : Sd → Prop) : Prop := ∀ (C : YDt J) (nx : Sd → List D → J → Prop) (ds : List D) (j : J) (I : Nat → J → Prop), (∀ ds j k k', (∀ j', k j' → k' j') → C.yl ds j k → C.yl ds j k') →
  (∀ k j', k < its.length → I k j' → ds.length + k < LINE ∧ C.yl (ds ++ its.take (k + 1)) j' (I (k + 1))) → (∀ m' j', R m' → I its.length j' → nx m' (ds ++ its) j') → I 0 j → y C nx m ds j
section
variable {y y1 y2 yb : Yv J} {f : Sv J} {fe : Ev J} {tc : Tv J} {m m1 : Sd} {R R1 R2 : Sd → Prop} {i1 i2 its : List D} {fi : Iv J} {γ : Gv} {d : D}
theorem YTo.yields (h : YTo y m its R) : Yields y m its := fun C nx ds j I mo hI hd h0 => h C nx ds j I mo hI (fun m' j' _ => hd m' j') h0
theorem YTo.imp (h : YTo y m its R) (q : ∀ m', R m' → R1 m') : YTo y m its R1 := fun C nx ds j I mo hI hd h0 => h C nx ds j I mo hI (fun m' j' r => hd m' j' (q _ r)) h0
theorem yTo_nil (h : R m) : YTo (yNil : Yv J) m [] R := fun C nx ds j I mo hI hd h0 => by
  have := hd m j h h0
  rw [List.append_nil] at this
  exact this
theorem yTo_seq (h1 : YTo y1 m i1 R1) (h2 : ∀ m1, R1 m1 → YTo y2 m1 i2 R2) : YTo (ySeq y1 y2) m (i1 ++ i2) R2 := fun C nx ds j I mo hI hd h0 => by
  refine h1 C _ ds j I mo (fun k j' hk hi => ?_) (fun m1 j' r1 hi => ?_) h0
  · have := hI k j' (by rw [List.length_append]; omega) hi
    rw [List.take_append_of_le_length (by omega)] at this
    exact this
  · refine h2 m1 r1 C nx (ds ++ i1) j' (fun k => I (i1.length + k)) mo (fun k j2 hk hi2 => ?_) (fun m2 j2 r2 hi2 => ?_) hi
    · have := hI (i1.length + k) j2 (by rw [List.length_append]; omega) hi2
      rw [List.length_append]
      refine ⟨by omega, ?_⟩
      have e : (i1 ++ i2).take (i1.length + k + 1) = i1 ++ i2.take (k + 1) := by rw [Nat.add_assoc, List.take_length_add_append]
      rw [e, ← List.append_assoc] at this
      exact this.2
    · have := hd m2 j2 r2 (by rw [List.length_append]; exact hi2)
      rw [← List.append_assoc] at this
      exact this
theorem yTo_yl (h : ∀ (j : J) (P : D → J → Prop) (E : XP J), P d j → fe m j P E) (r : R m) : YTo (yYl fe) m [d] R := fun C nx ds j I mo hI hd h0 => by
  obtain ⟨h1, h2⟩ := hI 0 j Nat.one_pos h0
  exact ⟨by omega, h j _ _ (mo _ _ _ _ (fun j' hi => hd m j' r hi) h2)⟩
/-- a loop over xs, the turn k hands out its k -/
theorem yTo_F [hb : MoY yb] {xs : List D} (S : Nat → Sd → Prop) (ik : Nat → List D) (ht : ∀ k d m, xs[k]? = some d → S k m → ∃ m1, γ d m = some m1 ∧ YTo yb m1 (ik k) (S (k + 1))) :
    ∀ (r k : Nat) (m : Sd), k + r = xs.length → S k m → YTo (fun C nx m ds j => yF γ yb C nx (xs.drop k) m ds j) m (((List.range' k r).map ik).flatten) (S xs.length) := by
  intro r
  induction r with
  | zero =>
    intro k m e hS C nx ds j I mo hI hd h0
    have e : k = xs.length := by omega
    subst e
    show yF γ yb C nx (xs.drop xs.length) _ ds j
    rw [List.drop_length]
    have := hd m j hS h0
    simp at this
    exact this
  | succ r ih =>
    intro k m e hS C nx ds j I mo hI hd h0
    have hk : k < xs.length := by omega
    show yF γ yb C nx (xs.drop k) _ ds j
    rw [List.drop_eq_getElem_cons hk]
    obtain ⟨m1, e1, h1⟩ := ht k xs[k] m (List.getElem?_eq_getElem hk) hS
    refine ⟨m1, e1, ?_⟩
    have s := yTo_seq h1 (fun m2 r2 => ih (k + 1) m2 (by omega) r2) C nx ds j I mo
    rw [List.range'_succ, List.map_cons, List.flatten_cons] at hI hd
    exact s hI hd h0
theorem yTo_for [hb : MoY yb] {xs : List D} (S : Nat → Sd → Prop) (ik : Nat → List D) (hf : ∀ (j : J) (P : List D → J → Prop) (E : XP J), P xs j → fi m j P E) (h0 : S 0 m) (ht : ∀ k d m, xs[k]? = some d → S k m → ∃ m1, γ d m = some m1 ∧ YTo yb m1 (ik k) (S (k + 1))) (e : its = ((List.range xs.length).map ik).flatten) :
    YTo (yFor fi γ yb) m its (S xs.length) := fun C nx ds j I mo hI hd hi => by
  refine hf j _ _ ?_
  have := yTo_F (J := J) S ik ht xs.length 0 m (Nat.zero_add _) h0 C nx ds j I mo
  rw [List.range_eq_range'] at e
  rw [← e] at this
  exact this hI hd hi
end
end Mp

/-! Q5: [x for x in g(..)], g a def that yields. -/
namespace Mp
open PySem PySem.Spec L2
open PyProof.Rows hiding St
open GenW
variable {J : Type}
/-- a block's own dict, while it is known -/
def nsO (C : Addr) (mC : Str → Option Value) : HO := .ext fun h => h.Ns C mC
def remH (H : Hp) (C : Addr) : Hp := fun b => if b = C then none else H b
theorem remH_ne {H : Hp} {b C : Addr} (h : b ≠ C) : remH H C b = H b := if_neg h
theorem remH_same {H : Hp} {C : Addr} : remH H C C = none := if_pos rfl
theorem nsO_ok {P : Program} {w : World} {H : Hp} {h : Heap} {C : Addr} {mC : Str → Option Value} (x : h.Ns C mC) : ObjOk P w H h C (nsO C mC) := by
  refine ⟨x, ?_, fun h1 h2 y k => Heap.Ns.at y k⟩
  obtain ⟨o, _, _, ho, _⟩ := x
  exact ⟨o, ho⟩
theorem nsO_of {X : Cx} {pins : List (Addr × Obj)} {σ : St} {H : Hp} {s : Shared} {C : Addr} {mC : Str → Option Value} (I : Inv X pins σ H s) (hC : H C = some (nsO C mC)) : s.heap.Ns C mC := by
  obtain ⟨x, _⟩ := I.hok C _ hC
  exact x
theorem inv_rem {X : Cx} {pins : List (Addr × Obj)} {σ : St} {H : Hp} {s : Shared} {C : Addr} {mC : Str → Option Value} (I : Inv X pins σ H s) (hC : H C = some (nsO C mC)) : Inv X pins σ (remH H C) s := by
  have ne : ∀ {b : Addr} {o : HO}, H b = some o → (∀ φ, o ≠ .ext φ) → b ≠ C := fun {b o} e n z => by
    rw [z, hC] at e; cases e; exact n _ rfl
  have nn : ∀ {b : Addr}, H b = none → remH H C b = none := fun {b} e => by unfold remH; split; rfl; exact e
  obtain ⟨k1, k2, k3, k4, k5, k6, k7⟩ := I.base
  refine { ok := I.ok, os := I.os, bare := I.bare, base := { keep := k1, slot := k2, free := fun b o e n hx => nn (k3 b o e n hx), there := k4, tups := fun b xs e => ?_, frzs := fun b o u e => ?_, tbls := fun b ps e => ?_ }, loc := I.loc, cell := I.cell, free := nn I.free, freeC := fun x c e => nn (I.freeC x c e), pin := fun p hp => ?_, hok := fun b o e => ?_, len := I.len }
  · rw [remH_ne (ne (k5 b xs e) (by intro φ z; cases z))]; exact k5 b xs e
  · rw [remH_ne (ne (k6 b o u e) (by intro φ z; cases z))]; exact k6 b o u e
  · obtain ⟨m, em⟩ := k7 b ps e
    exact ⟨m, by rw [remH_ne (ne em (by intro φ z; cases z))]; exact em⟩
  · obtain ⟨p1, p2, p3, p4, p5⟩ := I.pin p hp
    exact ⟨p1, nn p2, p3, p4, p5⟩
  · by_cases hb : b = C
    · rw [hb, remH_same] at e; cases e
    · rw [remH_ne hb] at e
      exact (I.hok b o e).stay (fun c u _ q => q) (fun c q => by rw [remH_ne (ne q (by intro φ z; cases z))]; exact q) fun c xs q => by rw [remH_ne (ne q (by intro φ z; cases z))]; exact q
theorem okB_rem {S : Js J} {B : Bs} {g : Gh} {H : Hp} {j : J} {C : Addr} {mC : Str → Option Value} (k : OkB S B g H j) (h : H C = some (nsO C mC)) (n1 : g.G C = none) (n2 : ¬ g.A C) (n3 : B.H0 C = none) : OkB S B g (remH H C) j := by
  refine ⟨k.fg, fun b u e => ?_, k.ga, S.frame k.jr (Same.refl _) fun b z => remH_ne fun q => n2 (q ▸ z), k.f0, k.g0, k.a0, fun b u e n => ?_, fun b e => ?_, ?_⟩
  · rw [remH_ne (ne_of_none e n1)]; exact k.gh b u e
  · rw [remH_ne (ne_of_none e n3)]; exact k.h0 b u e n
  · by_cases hb : b = C
    · subst hb; exact n3
    · rw [remH_ne hb] at e; exact k.h1 b e
  · obtain ⟨o1, u1, e1⟩ := k.sm
    refine ⟨o1, u1, ?_⟩
    rw [remH_ne]
    · exact e1
    · intro z; rw [z, h] at e1; cases e1
/-- the names of the block: all its own -/
def blkL (scope : Scope) (x : Str) : Bool := scope.kind == .function && scope.names.all (fun y => y.2 == .local && scope.names.lookup y.1 == some .local) && scope.names.lookup x == some .local
/-- the record of the one who fills the list at D, in a block whose dict is C -/
def LC (X : Cx) (S : Js J) (BC : Bs) (M : Nat → Bool) (pins : List (Addr × Obj)) (L D C : Addr) (g : Gh) (σ : St) (m : Sd) (ds : List Mp.D) (s0 : Shared) (B : Bs) : Prop :=
  ∃ sw g' j' vs mC, (∀ b, b < L → s0.heap.get? b = sw.heap.get? b) ∧ s0.os = sw.os ∧ Inv X pins σ B.H0 sw ∧ Ok S BC g' M σ B.H0 m j' ∧ B = ⟨g'.F, B.H0, g'.A⟩ ∧ Le g g' ∧ B.H0 D = some (.lst vs) ∧ RpL S g'.F ds vs ∧ g'.G D = none ∧ ¬ g'.A D ∧ B.H0 C = some (nsO C mC) ∧ g'.G C = none ∧ ¬ g'.A C
section
variable {X : Cx} {S : Js J} {BC : Bs} {M : Nat → Bool} {W : WX} {iter : Expr} {x : Str} {xp xp2 : Pos} {n k : Nat} {y : Yv J} {fr : Av J} {scope : Scope} {pos pos' : Pos} {use : Option (Value → Sem Unit)} {Qf : Value → Shared → Prop} {Qv : VK} {pins : List (Addr × Obj)} {s : Shared} {σ : St} {H : Hp}
theorem lcg_core (hK : X.K = S.K) (hst : X.stack = X.env :: X.outer) (hfr : X.env.frame = some X.env.locals) (hc : X.calm = true) (hr : Room (k + 2) X.A) (hgd : X.A.guards = some []) (hg : PYG X S k y n iter (rdA S BC M W true fr))
    (hb : blkL scope x = true) (hdb : (x == ("__debug__" : Str)) = false) (hs : ∀ z, foldedSetIterable iter X.env z = pure z) (I : Inv X pins σ H s) (hgF : GFr s.gens) (h : rdE S BC M W .fresh (eListG y n fr) σ H Qv)
    (hRR : ∀ D C s' m H', Inv X pins σ H' s' → Qv (.ref D) H' → s'.heap.Ns C m → FpOk X pins H' C → compPost (model X.prog X.w) X.A X.xe use Qf (.ref D) C (.ok .next) s') :
    wpAny (model X.prog X.w) X.A (comprehension (.ListComp (.Name x xp) [⟨.Name x xp2, iter, [], 0⟩] scope pos) scope X.env pos' (newList []) false (eval iter X.env) use) Qf X.xe s := by
  obtain ⟨g, m, j, P, Ep, ok, hf, q, xo⟩ := h
  have hb0 := hb
  unfold blkL at hb
  rw [Bool.and_eq_true, Bool.and_eq_true] at hb
  obtain ⟨⟨hkind, hall⟩, hx⟩ := hb
  have hkind : scope.kind = .function := by simpa using hkind
  have hall : ∀ y ∈ scope.names, y.2 = .local ∧ scope.names.lookup y.1 = some .local := fun y hy => by
    have := List.all_eq_true.mp hall y hy
    rw [Bool.and_eq_true] at this
    exact ⟨by simpa using this.1, by simpa using this.2⟩
  have hx : scope.names.lookup x = some .local := by simpa using hx
  refine wpAny_comprehension_free (use := use) rfl hs (closure_ok fun y hy e => by rw [(hall y hy).1] at e; cases e) hkind (fun y hy e => (hall y hy).2)
    (wpAny_gf hgF (wpAny_mono (hg.run pins s σ H (fun vs H1 => ∃ ds j1 g1, Le g g1 ∧ Ok S BC g1 M σ H1 m j1 ∧ RpL S g1.F ds vs ∧ y ⟨fun _ j k => k j, fun ds j => P (.lst ds) j, fun _ _ _ => False⟩ (fun _ ds j => P (.lst ds) j) (startD n ds) [] j1) I ⟨g, m, j, _, Ep, ok, hf, fun ds j1 g1 vs H1 p l ok1 w => ⟨ds, j1, g1, l, ok1, w, p⟩, xo⟩) (fun u s1 h1 hgF1 => ?_) fun _ _ z _ => z))
  obtain ⟨vs, H1, sc, _, I1, made, ds0, j1, g1, l1, ok1, rv, hy⟩ := h1
  obtain ⟨a, gn, c, go, GN, Gq, Gsc, Gf, Gcd, rfl, aL, aS, isg, ego, hgen, ngo, hfresh, os1, bare1, glt, kp1, wake⟩ := made
  refine wpAny_pyIter_gen isg ?_
  refine wpAny_newObj_type (newEnv_comp ?_) (by show 0 ≤ sizeLine; decide)
  show codeAny _ _ (.compStart (.ListComp (.Name x xp) [⟨.Name x xp2, iter, [], 0⟩] scope pos) 0 (.ref a) (.ref s1.heap.objs.size) (compEnvC scope (cellsFrom ((s1.heap.push { cls := .type "list", data := .seq ([] : List Value).toArray }).objs.size + 1) scope.names (cloFrom X.env.cells scope.names [])) (s1.heap.push { cls := .type "list", data := .seq ([] : List Value).toArray }).objs.size X.env)) (compPost (model X.prog X.w) X.A X.xe use Qf (.ref s1.heap.objs.size) (s1.heap.push { cls := .type "list", data := .seq ([] : List Value).toArray }).objs.size) { s1 with heap := pushCells ((s1.heap.push { cls := .type "list", data := .seq ([] : List Value).toArray }).push { cls := .type "dict", data := .dict #[] }) scope.names }
  generalize hh3 : s1.heap.push { cls := .type "list", data := .seq ([] : List Value).toArray } = h3
  generalize hD : s1.heap.objs.size = D
  have k3 : ∀ b o, s1.heap.get? b = some o → h3.get? b = some o := fun b o e => by rw [← hh3]; exact Heap.get?_push_of_some _ e
  have D3 : h3.get? D = some { cls := .type "list", data := .seq ([] : List Value).toArray } := by rw [← hh3, ← hD]; exact Heap.get?_push_size _ rfl
  have sz3 : h3.objs.size = D + 1 := by rw [← hh3, Heap.size_push, hD]
  generalize hC : h3.objs.size = C
  have hC' : C = D + 1 := hC.symm.trans sz3
  generalize hce : compEnvC scope (cellsFrom (C + 1) scope.names (cloFrom X.env.cells scope.names [])) C X.env = ce
  have cL : ce.locals = C := by subst hce; rfl
  have ck : ce.kindOf x = some .local := by subst hce; exact lookup_relS_keep (by decide) hx
  have cf : ce.scope.kind = .function := by subst hce; exact hkind
  generalize hh4 : pushCells (h3.push { cls := .type "dict", data := .dict #[] }) scope.names = h4
  have k34 : ∀ b o, h3.get? b = some o → h4.get? b = some o := fun b o e => by rw [← hh4]; exact pushCells_keeps _ _ _ _ (Heap.get?_push_of_some _ e)
  have kp4 : ∀ b o, s1.heap.get? b = some o → h4.get? b = some o := fun b o e => k34 b o (k3 b o e)
  have C4 : h4.Ns C (fun _ => none) := by
    rw [← hh4, ← hC]
    exact (Heap.Ns.new h3 (.type "dict")).keeps fun b o e => pushCells_keeps _ _ _ _ e
  have hh : X.A.handled = none := I1.ok.hd hc
  have hfs : frs X.stack = X.env.locals :: X.fs := by rw [hst]; unfold frs; rw [List.filterMap_cons, hfr]; rfl
  have yL : X.env.locals < sc.heap.objs.size := I1.lt
  have yC : ∀ x c, X.env.cells.lookup x = some c → c < sc.heap.objs.size := fun x c e => by obtain ⟨v, o, ho, _⟩ := I1.cell x c e; exact Heap.lt_size ho
  have yfs : ∀ b ∈ X.fs, b < sc.heap.objs.size := fun b hb => by obtain ⟨_, o, ho, _⟩ := I1.funs.mem hb; exact Heap.lt_size ho
  have yp : ∀ p ∈ X.pn ++ pins, p.1 < sc.heap.objs.size := fun p hp => Heap.lt_size (I1.pin p hp).1
  have yS : sc.heap.objs.size < D := by rw [← hD]; exact Nat.lt_trans aL aS
  have lC : sc.heap.objs.size < C := by omega
  have aD : a < D := by rw [← hD]; exact aS
  have aC : a < C := by rw [hC']; exact Nat.lt_succ_of_lt aD
  let YC : YCx J := { (⟨fun _ j k => k j, fun ds j => P (.lst ds) j, fun _ _ _ => False⟩ : YDt J) with W := LC X S BC M pins sc.heap.objs.size D C g1 σ m }
  let G : GP := GP.mk X.prog X.w S.K X.mg X.base GN Gq Gsc Gf Gcd X.A.in1 X.stack sc.heap.objs.size [(a, go)] gn
  have hr1 : Room k X.A.in1 := ⟨hr.hd, by have := hr.dp; show X.A.depth + 3 * k + 5 < _; omega, by have := hr.un; show X.A.units + 1 + 16 * k + 200 < _; omega⟩
  have nD : H1 D = none := I1.hok.fresh (Nat.le_of_lt yS)
  have nC : H1 C = none := I1.hok.fresh (by omega)
  have neCD : C ≠ D := by omega
  obtain ⟨n1, n2, n3, n4⟩ := ok1.b.hn nD
  obtain ⟨c1, c2, c3, c4⟩ := ok1.b.hn nC
  have Ia := I1.call' (s' := s1.setGen gn .running) (ch := []) os1 (Un.kept kp1) (I1.hok.kept kp1) (allBare_setGen bare1 rfl) fun b z => by simp at z
  have Ib : Inv X pins σ (upd H1 D (.lst [])) ((⟨h3, s1.gens, s1.drawn, s1.toks, s1.os⟩ : Shared).setGen gn .running) := Ia.laid (t' := s1.toks) k3 (by rw [← hD]; exact Nat.le_refl _) ⟨Nat.zero_le _, [], 0, .nil, D3⟩
  have Ic : Inv X pins σ (upd (upd H1 D (.lst [])) C (nsO C fun _ => none)) ((⟨h4, s1.gens, s1.drawn, s1.toks, s1.os⟩ : Shared).setGen gn .running) := Ib.laid (t' := s1.toks) k34 (by rw [← hC]; exact Nat.le_refl _) (nsO_ok C4)
  have okB0 := ok1.b.lay (.lst []) nD
  have okC0 := okB0.lay (nsO C fun _ => none) (by rw [upd_ne neCD]; exact nC)
  have started := wake X.A.in1 ((⟨h4, s1.gens, s1.drawn, s1.toks, s1.os⟩ : Shared).setGen gn .running) YC ⟨g1.F, upd (upd H1 D (.lst [])) C (nsO C fun _ => none), g1.A⟩ j1 ds0 hr1 hgd (by rw [setGen_size]; exact (Array.getElem?_eq_some_iff.mp hfresh).1) (GFr.set hgF1 trivial) ⟨Ic.ok.frames, by rw [← hK]; exact Ic.ok.mod, Ic.bs, Nat.le_trans Ic.ok.bsz Ic.sz, Ic.stack, Ic.stkFree, Ic.hok, Ic.bare⟩ (fun b o _ e => kp4 b o e)
    (by show upd (upd H1 _ _) _ _ _ = none; rw [upd_ne (Nat.ne_of_lt lC), upd_ne (Nat.ne_of_lt yS)]; exact I1.hok.fresh (Nat.le_refl _)) (by show upd (upd H1 _ _) _ _ _ = none; rw [upd_ne (Nat.ne_of_lt aC), upd_ne (Nat.ne_of_lt aD)]; exact I1.hok.fresh (Nat.le_of_lt aL)) ⟨okC0.fg.trans okC0.gh, fun b o e => okC0.ga b o (okC0.fg b o e), okC0.jr, okC0.sm, rv⟩
    ⟨(⟨h4, s1.gens, s1.drawn, s1.toks, s1.os⟩ : Shared).setGen gn .running, g1, j1, [], _, fun b hb => cut_get hb, rfl, Ic, ⟨okC0, ok1.s⟩, rfl, Le.refl _, by show upd (upd _ _ _) _ _ _ = _; rw [upd_ne (Ne.symm neCD)]; exact upd_same, .nil, n2, n3, upd_same, c2, c3⟩ hy
  obtain ⟨good, seg0⟩ := started
  have back : ∀ {ds : List Mp.D} {s0 : Shared} {B : Bs} {pinsG : List (Addr × Obj)} {gpG : Gp} {σG : St} {gG : Gh} {HG : Hp} {mG : Sd} {jG : J} {s2 : Shared}, GAt G S YC ds s0 B pinsG gpG σG gG HG mG jG s2 →
      ∃ oL gc vs mC, Inv X ((a, go) :: (sc.heap.objs.size, oL) :: (pinsG ++ pins)) σ HG s2 ∧ Ok S BC gc M σ HG m jG ∧ Same gG.F gc.F ∧ Le g1 gc ∧ s2.heap.get? sc.heap.objs.size = some oL ∧ HG D = some (.lst vs) ∧ RpL S gc.F ds vs ∧ gc.G D = none ∧ ¬ gc.A D ∧ HG C = some (nsO C mC) ∧ gc.G C = none ∧ ¬ gc.A C := by
    intro ds s0 B pinsG gpG σG gG HG mG jG s2 at1
    obtain ⟨sw, g', j', vs, mC, agree, os0, Iw, okw, eB, sub, hSv, rvs, nG, nA, hCv, nGC, nAC⟩ := at1.wr
    have un : Un (frs X.stack) [] B.H0 HG s0.heap s2.heap := at1.inv.base
    obtain ⟨mL, ⟨oL, es, ep, hoL, hdL, _⟩, _⟩ := at1.inv.loc
    have hoL : s2.heap.get? sc.heap.objs.size = some oL := hoL
    have neL : ∀ b, sc.heap.objs.size ≤ b → b ≠ X.env.locals ∧ b ∉ X.fs := fun b hb => ⟨fun z => by rw [z] at hb; exact absurd (Nat.lt_of_lt_of_le yL hb) (Nat.lt_irrefl _), fun z => absurd (Nat.lt_of_lt_of_le (yfs b z) hb) (Nat.lt_irrefl _)⟩
    have Ic : Inv X ((a, go) :: (sc.heap.objs.size, oL) :: (pinsG ++ pins)) σ HG s2 := by
      refine inv_back Iw agree (at1.inv.os.trans os0) un at1.inv.hok at1.inv.bare yL yC fun p hp => ?_
      have old : p ∈ X.pn ++ pins → s2.heap.get? p.1 = some p.2 ∧ HG p.1 = none ∧ p.1 ≠ X.env.locals ∧ p.1 ∉ X.fs ∧ ∀ v, p.2.data ≠ .cell v := fun hp => by
        obtain ⟨p1, p2, p3, p4, p5⟩ := Iw.pin p hp
        have p6 : p.1 ∉ frs X.stack := by rw [hfs]; exact fun z => (List.mem_cons.mp z).elim p3 p4
        have p7 := (agree _ (yp p hp)).trans p1
        exact ⟨un.keep _ _ p7 p2 p6 (by simp), un.free _ _ p7 p2 (by simp), p3, p4, p5⟩
      rcases List.mem_append.mp hp with hp | hp
      · exact old (List.mem_append_left _ hp)
      rcases List.mem_cons.mp hp with hp | hp
      · obtain ⟨p1, p2, _, _, _⟩ := at1.inv.pin (a, go) (List.mem_append_left _ (List.mem_singleton.mpr rfl))
        rw [hp]
        exact ⟨p1, p2, (neL a (Nat.le_of_lt aL)).1, (neL a (Nat.le_of_lt aL)).2, ngo⟩
      rcases List.mem_cons.mp hp with hp | hp
      · rw [hp]
        exact ⟨hoL, at1.inv.free, (neL _ (Nat.le_refl _)).1, (neL _ (Nat.le_refl _)).2, fun v z => by rw [hdL] at z; cases z⟩
      rcases List.mem_append.mp hp with hp | hp
      · obtain ⟨p1, p2, _, p4, p5⟩ := at1.inv.pin p (List.mem_append_right _ hp)
        have p4 : p.1 ∉ frs X.stack := p4
        rw [hfs] at p4
        exact ⟨p1, p2, fun z => p4 (by rw [z]; exact List.mem_cons_self), fun z => p4 (List.mem_cons_of_mem _ z), p5⟩
      · exact old (List.mem_append_right _ hp)
    have pp := okb_post at1.ok.b
    rw [eB] at pp
    obtain ⟨le, okc⟩ := post_clean okw.b pp
    have hSG : HG D = some (.lst vs) := pp.keep _ _ hSv nA
    have hCG : HG C = some (nsO C mC) := pp.keep _ _ hCv nAC
    have gn : ∀ {b : Addr} {o : HO}, B.H0 b = some o → g'.G b = none → un2 gG.G g'.G b = none := fun {b o} hv nG => by
      cases z : gG.G b with
      | none => unfold un2; rw [z]; exact nG
      | some o =>
        rcases pp.ff _ _ z with y | y
        · exact absurd ((show g'.F b = some o from y).symm.trans (okw.b.fg.free nG)) (by simp)
        · have y : B.H0 b = none := y
          rw [hv] at y; cases y
    have an : ∀ {b : Addr} {o : HO}, B.H0 b = some o → ¬ g'.A b → ¬ gG.A b := fun {b o} hv nA z => by
      rcases pp.af _ z with y | y
      · exact nA y
      · have y : B.H0 b = none := y
        rw [hv] at y; cases y
    exact ⟨oL, _, vs, mC, Ic, ⟨okc, okw.s.le le⟩, at1.ok.b.fg, sub.trans le, hoL, hSG, rvs.mono le.f, gn hSv nG, an hSv nA, hCG, gn hCv nGC, an hCv nAC⟩
  have unpin : ∀ {oL : Obj} {pinsG : List (Addr × Obj)} {H5 : Hp} {s6 : Shared}, Inv X ((a, go) :: (sc.heap.objs.size, oL) :: (pinsG ++ pins)) σ H5 s6 → Inv X pins σ H5 s6 := fun I6 => I6.pins_of fun p hp => I6.pin p (List.mem_append_right _ (List.mem_cons_of_mem _ (List.mem_cons_of_mem _ (List.mem_append_right _ hp))))
  have loop : codeAny (model X.prog X.w) X.A (.compLoop (.ListComp (.Name x xp) [⟨.Name x xp2, iter, [], 0⟩] scope pos) 0 (.ref a) (.ref D) ce) (compPost (model X.prog X.w) X.A X.xe use Qf (.ref D) C) { s1 with heap := h4 } := by
    refine compLoop_any (fun qn s3 => ∃ gs, s3.gens[gn]? = some gs ∧ gs.Goes (model X.prog X.w) X.A.in1 (YR G S YC) (YP G S YC) qn (.send .none) (s3.setGen gn .running) ∧ s3.heap.NoLimit ∧ s3.heap.IsGen a gn ∧ GFr s3.gens) ?_ sizeLine ⟨_, hfresh, ⟨rfl, seg0⟩, I1.nolimit.keeps fun b o e => kp4 b o (kp1 b o e), isg.keeps kp4, hgF1⟩
    rintro qn s3 ⟨gs, hgs, hgo, hlim, hig, hgF3⟩
    have hgl : gn < s3.gens.size := (Array.getElem?_eq_some_iff.mp hgs).1
    refine wpAny_gsz (n := gn + 1) hgl (wpAny_gf hgF3 (next_genG (A := X.A) (Y := YP G S YC) (F := fun n _ s2 => ∃ ds s0 B pins gp σ g H m j, GAt G S YC ds s0 B pins gp σ g H m j s2 ∧ YC.dn ds j ∧ n + ds.length = sizeLine)
      (Er := fun e s2 => ∃ ds s0 B, YC.W ds s0 B ∧ CX G.P G.w G.outer B.H0 s0 (EW S YC ds B) e s2 ∧ ∀ p ∈ G.pn, s2.heap.get? p.1 = some p.2) hh hlim hr.depth hig hgs hgo (fun v s2 gs' hb' hv => ?_) (fun s2 hp' h' hk => ?_) fun e s2 he => ?_))
    · obtain ⟨ds, d, jG, kk, s0, B, pinsG, gpG, σG, gG, HG, mG, vv, hcnt, rvv, rpd, at1, hkk, hkap⟩ := hv
      intro hgF4 hsz
      have hsz2 : gn < s2.gens.size := by
        have e := setGen_size s2 gn gs'
        rw [e] at hsz
        exact hsz
      have hsz2' : gn < (s2.setGen gn gs').gens.size := by rw [setGen_size]; exact hsz2
      obtain ⟨oL, gc, vs, mC, I2, ok2, sub1, le, hoL, hSG, rvs, nG, nA, hCG, nGC, nAC⟩ := back at1
      have I3 := I2.call' (s' := s2.setGen gn gs') (ch := []) rfl Un.refl I2.hok (allBare_setGen I2.bare hb') fun b z => by simp at z
      have hns : (s2.setGen gn gs').heap.Ns ce.locals mC := by rw [cL]; exact nsO_of I3 hCG
      show wpAny _ _ (pure ()) _ _ _
      refine wpAny_pure (wpAny_assign_Name (wpAny_storeName_local ck hns (fun h5 hn5 hs5 => ?_) (by rw [cf]; rfl)))
      rw [cL] at hn5 hs5
      have I4 : Inv X ((a, go) :: (sc.heap.objs.size, oL) :: (pinsG ++ pins)) σ (upd HG C (nsO C fun z => if z = x then some v else mC z)) { s2.setGen gn gs' with heap := h5, toks := (s2.setGen gn gs').toks + 1 } :=
        I3.write (t' := (s2.setGen gn gs').toks + 1) (by rw [hCG]; trivial) (.inl rfl) (fun b u hb q => (hs5.2 b hb).trans q) (by obtain ⟨o, _, _, ho, _⟩ := hn5; exact ⟨o, ho⟩) (nsO_ok hn5)
      refine wpAny_tests_nil ?_
      rw [if_pos rfl]
      refine wpAny_Name (wpAny_loadName_local cf ck (by rw [cL]; exact hn5) (if_pos rfl) ?_) hdb
      obtain ⟨z, its, nn, r, hlen, eo⟩ := I4.lstM (by rw [upd_ne (Ne.symm neCD)]; exact hSG)
      have hl2 := rvs.length
      have hits : its.length < sizeLine := by omega
      refine append_at (hsz := by rw [List.size_toArray]; omega) eo fun h6 sb6 ho6 => ?_
      generalize hH4 : upd HG C (nsO C fun z => if z = x then some v else mC z) = H4 at I4
      have hD4 : H4 D = some (.lst vs) := by rw [← hH4, upd_ne (Ne.symm neCD)]; exact hSG
      have hC4 : H4 C = some (nsO C fun z => if z = x then some v else mC z) := by rw [← hH4]; exact upd_same
      have I5 : Inv X ((a, go) :: (sc.heap.objs.size, oL) :: (pinsG ++ pins)) σ (upd H4 D (.lst (vs ++ [vv]))) { s2.setGen gn gs' with heap := h6, toks := (s2.setGen gn gs').toks + 1 } :=
        I4.write (t' := (s2.setGen gn gs').toks + 1) (by rw [hD4]; trivial) (.inl rfl) (fun b u hb q => (sb6.2 b hb).trans q) ⟨_, ho6⟩ ⟨by rw [List.length_append, List.length_singleton]; omega, its ++ [v], nn + 1, r.append (.cons rvv .nil), by rw [ho6]; simp⟩
      have okX : OkB S BC gc (upd H4 D (.lst (vs ++ [vv]))) jG := by
        rw [← hH4]
        exact (ok2.b.out hCG (by intro x y z; cases z) nGC nAC c4).out (by rw [upd_ne (Ne.symm neCD)]; exact hSG) (by intro x y z; cases z) nG nA n4
      have ok4 : Ok S BC gc M σ (upd H4 D (.lst (vs ++ [vv]))) m jG := ⟨okX, ok2.s⟩
      have I6 := I5.call' (s' := ({ s2.setGen gn gs' with heap := h6, toks := (s2.setGen gn gs').toks + 1 } : Shared).setGen gn .running) (ch := []) rfl Un.refl I5.hok (allBare_setGen I5.bare rfl) fun b z => by simp at z
      have pL := I6.pin (sc.heap.objs.size, oL) (List.mem_append_right _ (List.mem_cons_of_mem _ List.mem_cons_self))
      have pA := I6.pin (a, go) (List.mem_append_right _ List.mem_cons_self)
      have wk : GWake G S pinsG gpG s2 gG (({ s2.setGen gn gs' with heap := h6, toks := (s2.setGen gn gs').toks + 1 } : Shared).setGen gn .running) ⟨gc.F, upd H4 D (.lst (vs ++ [vv])), gc.A⟩ jG :=
        { e0 := ⟨I6.ok.frames, by show Mod S.K X.mg X.base; rw [← hK]; exact I6.ok.mod, I6.bs, Nat.le_trans I6.ok.bsz I6.sz, I6.stack, I6.stkFree, I6.hok, I6.bare⟩
          loc := fun o ho => by
            have ho : s2.heap.get? sc.heap.objs.size = some o := ho
            rw [hoL] at ho; cases ho
            exact pL.1
          nL := pL.2.1
          pin := fun p hp => by
            have hp : p ∈ [(a, go)] ++ pinsG := hp
            rcases List.mem_append.mp hp with hp | hp
            · rw [List.mem_singleton.mp hp]; exact ⟨pA.1, pA.2.1⟩
            · have z := I6.pin p (List.mem_append_right _ (List.mem_cons_of_mem _ (List.mem_cons_of_mem _ (List.mem_append_left _ hp))))
              exact ⟨z.1, z.2.1⟩
          sub := sub1
          fh := ok4.b.fg.trans ok4.b.gh
          fa := fun b o e => ok4.b.ga b o (ok4.b.fg b o e)
          jr := ok4.b.jr
          sm := ok4.b.sm
          own := by rw [setGen_size]; exact hsz2'
          gk := fun p hp => by
            obtain ⟨z1, z2, z3⟩ := at1.gk p hp
            refine ⟨?_, z2, z3⟩
            rw [setGen_ne (Nat.ne_of_gt z3)]
            show (s2.setGen gn gs').gens[p.1]? = _
            rw [setGen_ne (Nat.ne_of_gt z3)]
            exact z1
          gf := GFr.set hgF4 trivial }
      have wr : LC X S BC M pins sc.heap.objs.size D C g1 σ m (ds ++ [d]) (cutS (({ s2.setGen gn gs' with heap := h6, toks := (s2.setGen gn gs').toks + 1 } : Shared).setGen gn .running) sc.heap.objs.size) ⟨gc.F, upd H4 D (.lst (vs ++ [vv])), gc.A⟩ :=
        ⟨_, gc, jG, vs ++ [vv], _, fun b hb => cut_get hb, rfl, unpin I6, ok4, rfl, le, upd_same, rvs.append (.cons (rpd.mono sub1) .nil), nG, nA, by show upd H4 D _ C = _; rw [upd_ne neCD]; exact hC4, nGC, nAC⟩
      have goes := hkap _ ⟨gc.F, upd H4 D (.lst (vs ++ [vv])), gc.A⟩ jG wk wr hkk
      cases qn with
      | zero => exact goes.elim
      | succ q' => exact ⟨q', Nat.lt_succ_self _, gs', setGen_at hsz2, goes, I5.nolimit, hgen _ pA.1, hgF4⟩
    · obtain ⟨ds, s0, B, pinsG, gpG, σG, gG, HG, mG, jG, at1, hdn, _⟩ := hp'
      intro _ _
      obtain ⟨oL, gc, vs, mC, I2, ok2, sub1, le, hoL, hSG, rvs, nG, nA, hCG, nGC, nAC⟩ := back at1
      have I3 := unpin (I2.call' (s' := { s2.setGen gn .finished with heap := h' }) (ch := []) rfl (Un.kept hk) (I2.hok.kept hk) (allBare_setGen I2.bare rfl) fun b z => by simp at z)
      have l3 : Le gc (gc.see D (.lst vs)) := Le.see nG
      have hDr : remH HG C D = some (.lst vs) := by rw [remH_ne (Ne.symm neCD)]; exact hSG
      refine hRR D C _ _ (remH HG C) (inv_rem I3 hCG) (q _ _ _ _ _ hdn ((l1.trans le).trans l3) ⟨(okB_rem ok2.b hCG nGC nAC c4).adopt hDr nG nA n4, ok2.s.le l3⟩ ⟨_, rfl, (l1.trans le).g.free nG, ok2.b.fg.free nG, .inl ⟨ds, vs, rfl, upd_same, rvs⟩⟩) (nsO_of I3 hCG) ?_
      exact Ia.fpOk (by show s1.heap.objs.size ≤ C; omega) remH_same
    · obtain ⟨ds, s0, B, wr, cx, hpn⟩ := he
      obtain ⟨_, _, _, _, _, _, _, _, _, _, _, _, _, _, _, _, z, _⟩ := cx
      exact (show False from z).elim
  exact codeAny_compStart_list loop (wpAny_pyIter_gen (isg.keeps kp4) loop)
theorem e_lcG (hxs : Still X.xe) (hK : X.K = S.K) (hst : X.stack = X.env :: X.outer) (hfr : X.env.frame = some X.env.locals) (hc : X.calm = true) (hr : Room (k + 2) X.A) (hgd : X.A.guards = some []) (hg : PYG X S k y n iter (rdA S BC M W true fr))
    (hb : blkL scope x = true := by rfl) (hdb : (x == ("__debug__" : Str)) = false := by rfl) (hs : ∀ z, foldedSetIterable iter X.env z = pure z := by intro _; rfl) : PE X (.ListComp (.Name x xp) [⟨.Name x xp2, iter, [], 0⟩] scope pos) (rdE S BC M W .fresh (eListG y n fr)) := by
  refine ⟨fun pins s σ H Q I h => ?_⟩
  refine wpAny_still I.bare hxs (Q1 := EP X pins σ Q) (fun T hT hgF => ?_) fun v s1 T' h1 hk hb2 _ => by
    obtain ⟨vv, H', J, q⟩ := h1
    exact ⟨vv, H', J.call' (s' := { s1 with gens := T' }) (ch := []) rfl Un.refl J.hok (hb2 J.bare) fun b z => by simp at z, q⟩
  rw [eval_ListComp]
  refine lcg_core hK hst hfr hc hr hgd hg hb hdb hs (I.call' (s' := { s with gens := T }) (ch := []) rfl Un.refl I.hok hT fun b z => by simp at z) hgF h fun D C s' m H' I' q hn f => ⟨m, hn, fun h'' sb => ?_⟩
  obtain ⟨f0, f1, f2, f3, f4, f5⟩ := f
  exact ⟨.ref D, H', I'.turned (t' := s'.toks) (fun b o hb e => (sb.2 b hb).trans e) f0 f1 f3 f4 f5, rfl, q⟩
end
end Mp

/-! R1: if, and for over a generator, in a generator's body. -/
namespace Mp
open PySem PySem.Spec L2
open PyProof.Rows hiding St
open GenW
variable {J : Type}
def yIf (tc : Tv J) (ya yb : Yv J) : Yv J := fun C nx m ds j => tc m j (fun b j1 => if b = true then ya C nx m ds j1 else yb C nx m ds j1) (fun e _ j' => C.xc ds e j')
instance {tc : Tv J} {ya yb : Yv J} [hc : MoT tc] [ha : MoY ya] [hb : MoY yb] : MoY (yIf tc ya yb) := ⟨fun h a b q => hc.mo h (fun _ _ p => ite_mono p (fun p => ha.mo p a b q) fun p => hb.mo p a b q) fun _ _ _ => b _ _ _⟩
/-- what an inner generator's consumer wants, the consumer a generator: mOf the slots, dOf what has been handed out, by the items that came -/
def gY (i : Nat) (mOf : List D → Sd) (dOf : List D → List D) (yb : Yv J) (C : YDt J) (nx : Sd → List D → J → Prop) : YDt J where
  yl := fun is j k => ∃ d is', is = is' ++ [d] ∧ yb C (fun m2 ds2 j2 => m2 = mOf is ∧ ds2 = dOf is ∧ k j2) ((mOf is').set i (some d)) (dOf is') j
  dn := fun is j => nx (mOf is) (dOf is) j
  xc := fun _ _ _ => False
def yForG (i : Nat) (y : Yv J) (n : Nat) (fr : Av J) (yb : Yv J) : Yv J := fun C nx m ds j =>
  fr m j (fun ds0 j1 => ∃ (mOf : List D → Sd) (dOf : List D → List D) (lOf : Nat → Nat), mOf [] = m ∧ dOf [] = ds ∧ (∀ is, (dOf is).length = lOf is.length) ∧ y (gY i mOf dOf yb C nx) (fun _ is j => nx (mOf is) (dOf is) j) (startD n ds0) [] j1) (fun e _ j' => C.xc ds e j')
instance {i n : Nat} {y yb : Yv J} {fr : Av J} [h1 : MoA fr] [h2 : MoY y] [h3 : MoY yb] : MoY (yForG i y n fr yb) :=
  ⟨fun h a b q => h1.mo h (fun _ _ ⟨mOf, dOf, lOf, e1, e2, e3, p⟩ => ⟨mOf, dOf, lOf, e1, e2, e3, h2.mo p (fun is j k k' kk ⟨d, is', e, p⟩ => ⟨d, is', e, h3.mo p a b fun _ _ _ z => ⟨z.1, z.2.1, kk _ z.2.2⟩⟩) (fun _ _ _ z => z) fun _ _ _ => q _ _ _⟩) fun _ _ _ => b _ _ _⟩
section
variable {G : GP} {S : Js J} {body orelse : List Stmt} {ya yb : Yv J} {test : Expr} {pos : Pos} {tc : Tv J}
theorem ys_if (hc : ∀ (s0 : Shared) (H0 : Hp) (E : XK) (B : Bs), PT (G.cx s0 H0 E) test (rdT S B M0 (WD E) tc)) (ha : YSs G S body ya) (hb : YSs G S orelse yb) : YS G S (.If test body orelse pos) (yIf tc ya yb) := by
  refine ⟨fun C nx Fb R n ds s₀ c fs Kf Jf gd lv s s0 B pins gp σ g H m j cd hn k a fb hy => ?_⟩
  rw [exec_If]
  refine seg_bind_wrap (wpAny_standAt ?_)
  refine seg_bind_wrap ?_
  rw [cd.over]
  refine wpAny_mono (keepG a.inv a.own a.gk a.gf stillX (fun s' _ I' => (hc s0 B.H0 (EW S C ds B) B).run pins s' σ H (fun b H' => ∃ g' j', Ok S B g' M0 σ H' m j' ∧ Same g.F g'.F ∧ (if b = true then ya C.toYDt nx m ds j' else yb C.toYDt nx m ds j')) I' ⟨g, m, j, _, _, a.ok, hy, fun b j' g' H' h l ok' => ⟨g', j', ok', l.f, h⟩, xoutW⟩) (fun Z b s' pz hs => ?_)) (fun _ _ z => z) fun x s' hx => k.exc n ds s₀ s' s0 B x a.wr hx
  obtain ⟨H', I', g', j', ok', l, h⟩ := hs
  have a' : GAt G S C ds s0 B pins gp σ g' H' m j' (resS Z s') := ⟨a.wr, a.sz, pz.inv I', ok', pz.own', pz.gk, pz.gf⟩
  have k' : YK G S C nx g'.F pins gp R c fs Kf Jf := ⟨fun n2 ds2 s2 s3 s02 B2 σ2 g2 H2 m2 j2 hn2 a2 fb2 h2 => k.ok n2 ds2 s2 s3 s02 B2 σ2 g2 H2 m2 j2 hn2 a2 ((fb.trans l).trans fb2) h2, k.exc⟩
  cases b with
  | true =>
    rw [if_pos rfl] at h ⊢
    exact ha.run C nx g'.F R n ds s₀ c fs Kf Jf gd lv _ s0 B pins gp σ g' H' m j' cd hn k' a' (Same.refl _) h
  | false =>
    rw [if_neg Bool.false_ne_true] at h ⊢
    exact hb.run C nx g'.F R n ds s₀ c fs Kf Jf gd lv _ s0 B pins gp σ g' H' m j' cd hn k' a' (Same.refl _) h
/-- the inner generator's record of a waking -/
def WY (G : GP) (S : Js J) (C : YCx J) (mOf : List D → Sd) (dOf : List D → List D) (pins : List (Addr × Obj)) (L : Addr) (F1 : Hp) (is : List D) (s0' : Shared) (B' : Bs) : Prop :=
  ∃ sw s0 B σ g j, (∀ b, b < L → s0'.heap.get? b = sw.heap.get? b) ∧ s0'.os = sw.os ∧ Inv (G.cx s0 B.H0 (EW S C (dOf is) B)) pins σ B'.H0 sw ∧ Ok S B g M0 σ B'.H0 (mOf is) j ∧ B' = ⟨g.F, B'.H0, g.A⟩ ∧ Same F1 g.F ∧ C.W (dOf is) s0 B ∧ s0.heap.objs.size = G.L
/-- those that sleep and have a number below bd are out of use for a while -/
theorem Pz.startB {gp : Gp} {s : Shared} (bd : Nat) (hb : PyProof.Rows.AllBare s.gens) (own : G.gn < s.gens.size) (gk : GK G gp s.gens) (gf : GFr s.gens) (gl : ∀ p ∈ gp, p.1 < bd) : ∃ Z T, Pz G gp Z { s with gens := T } ∧ resS Z { s with gens := T } = s ∧ PyProof.Rows.AllBare T ∧ T.size = s.gens.size ∧ (∀ i, bd ≤ i → Z i = none ∧ T[i]? = s.gens[i]?) := by
  let Z : Nat → Option GenState := fun i => match s.gens[i]? with | some y => if isSusp y = true ∧ i < bd then some y else none | none => none
  have zs : ∀ i y, Z i = some y → s.gens[i]? = some y ∧ isSusp y = true ∧ i < bd := fun i y e => by
    show _ ∧ _
    simp only [Z] at e
    split at e
    · rename_i z hz
      split at e
      · rename_i h; cases e; exact ⟨hz, h⟩
      · cases e
    · cases e
  have zo : ∀ i y, s.gens[i]? = some y → isSusp y = true → i < bd → Z i = some y := fun i y e e2 e3 => by simp only [Z, e, e2, e3, and_self, if_true]
  have zn : ∀ i, bd ≤ i → Z i = none := fun i hi => by
    cases e : Z i with
    | none => rfl
    | some y => have := (zs i y e).2.2; omega
  have zb : ∀ i y, Z i = some y → y.bare = true := fun i y e => hb _ (Array.mem_of_getElem? (zs i y e).1)
  let T : Array GenState := s.gens.mapIdx fun i y => if i < bd then sleep y else y
  have tg : ∀ i, T[i]? = (s.gens[i]?).map fun y => if i < bd then sleep y else y := fun i => by simp only [T, Array.getElem?_mapIdx]
  have hT : PyProof.Rows.AllBare T := fun y hy => by
    obtain ⟨i, hi⟩ := Array.getElem?_of_mem hy
    rw [tg] at hi
    obtain ⟨y', h1, h2⟩ := Option.map_eq_some_iff.mp hi
    by_cases c : i < bd
    · rw [if_pos c] at h2; rw [← h2]; exact sleep_bare
    · rw [if_neg c] at h2; rw [← h2]; exact hb _ (Array.mem_of_getElem? h1)
  have hg : GFr T := fun i x e => by
    rw [tg] at e
    obtain ⟨y, h1, h2⟩ := Option.map_eq_some_iff.mp e
    by_cases c : i < bd
    · rw [if_pos c] at h2; rw [← h2]; exact sleep_gf
    · rw [if_neg c] at h2; rw [← h2]; exact gf _ _ h1
  have hp : PZ Z T := fun i x e => by
    obtain ⟨e1, e2, e3⟩ := zs i x e
    refine ⟨sleep x, by rw [tg, e1]; show some (if i < bd then _ else _) = _; rw [if_pos e3], sleep_seen, ?_⟩
    cases x with
    | suspended k l c p fs cl => exact ⟨_, _, _, _, _, rfl⟩
    | _ => cases e2
  have back : resS Z { s with gens := T } = s := by
    show { s with gens := _ } = s
    have : resG Z T = s.gens := by
      apply Array.ext_getElem?
      intro i
      rw [res_get, tg]
      cases e : s.gens[i]? with
      | none => rfl
      | some y =>
        by_cases c : i < bd
        · cases e2 : isSusp y with
          | true => rw [zo i y e e2 c]; rfl
          | false =>
            have : Z i = none := by simp only [Z, e, e2]; rfl
            rw [this]
            show some ((none : Option GenState).getD (if i < bd then sleep y else y)) = _
            rw [if_pos c]
            cases y <;> first | rfl | cases e2
        · rw [zn i (by omega)]
          show some ((none : Option GenState).getD (if i < bd then sleep y else y)) = _
          rw [if_neg c]; rfl
    rw [this]
  have sz : T.size = s.gens.size := by simp only [T, Array.size_mapIdx]
  exact ⟨Z, T, ⟨zb, hg, hp, by show G.gn < T.size; rw [sz]; exact own, fun p hq => ⟨zo _ _ (gk p hq).1 (gk p hq).2.1 (gl p hq), (gk p hq).2⟩, fun i y e => gf _ _ (zs i y e).1⟩, back, hT, sz, fun i hi => ⟨zn i hi, by
    rw [tg]
    cases s.gens[i]? with
    | none => rfl
    | some y => show some (if i < bd then _ else _) = _; rw [if_neg (by omega)]⟩⟩
variable {i n k : Nat} {y : Yv J} {fr : Av J} {iter : Expr} {x : Str} {xp : Pos}
theorem ys_forG (gd0 : G.Good) (hK : G.K = S.K) (hr : Room (k + 2) (G.A.deeper G.env)) (hgd : (G.A.deeper G.env).guards = some []) (hN : G.N.Nodup) (hi : G.N[i]? = some x) (hloc : G.sc.names.lookup x = some .local) (hg : ∀ (s0 : Shared) (H0 : Hp) (E : XK) (B : Bs), PYG (G.cx s0 H0 E) S k y n iter (rdA S B M0 (WD E) true fr)) (hb : YSs G S body yb)
    (hs : ∀ z, foldedSetIterable iter G.env z = pure z := by intro _; rfl) : YS G S (.For (.Name x xp) iter body [] pos) (yForG i y n fr yb) := by
  refine ⟨fun C nx Fb R nn ds s₀ c fs Kf Jf gd lv s s0 B pins gp σ g H m j cd hn ky a fb hy => ?_⟩
  rw [exec_For]
  refine seg_bind_wrap (wpAny_standAt ?_)
  refine seg_bind_wrap ?_
  rw [cd.over]
  obtain ⟨Z, T, pz0, e0, hT⟩ := Pz.start a.inv.bare a.own a.gk a.gf
  have Ia := a.inv.call' (s' := { s with gens := T }) (ch := []) rfl Un.refl a.inv.hok hT fun b z => by simp at z
  have gpT : ∀ p ∈ gp, p.1 < T.size := fun p hp => by
    obtain ⟨y', h1, _⟩ := pz0.hp _ _ (pz0.gz p hp).1
    exact (Array.getElem?_eq_some_iff.mp h1).1
  rw [← e0]
  refine wpAny_mono (pz0.go stillX ((hg s0 B.H0 (EW S C ds B) B).run pins { s with gens := T } σ H (fun vs H1 => ∃ ds0 j1 g1, Le g g1 ∧ Ok S B g1 M0 σ H1 m j1 ∧ RpL S g1.F ds0 vs ∧ ∃ (mOf : List D → Sd) (dOf : List D → List D) (lOf : Nat → Nat), mOf [] = m ∧ dOf [] = ds ∧ (∀ is, (dOf is).length = lOf is.length) ∧ y (gY i mOf dOf yb C.toYDt nx) (fun _ is j => nx (mOf is) (dOf is) j) (startD n ds0) [] j1) Ia ⟨g, m, j, _, _, a.ok, hy, fun ds0 j1 g1 vs H1 p l ok1 w => ⟨ds0, j1, g1, l, ok1, w, p⟩, xoutW⟩) (fun u s1 pz1 h1 => ?_)) (fun _ _ z => z) fun x s' hx => ky.exc nn ds s₀ s' s0 B x a.wr hx
  obtain ⟨vs, H1, sc, hsc, I1, made, ds0, j1, g1, l1, ok1, rv, mOf, dOf, lOf, hm0, hd0, hlO, hyy⟩ := h1
  obtain ⟨a', gn, c', go, GN, Gq, Gsc, Gf, Gcd, rfl, aL, aS, isg, ego, hgen, ngo, hfresh, os1, bare1, glt, kp1, wake⟩ := made
  have hsc : T.size ≤ sc.gens.size := hsc
  have gnG : G.gn < gn := by have : G.gn < T.size := pz0.own; omega
  have gpl : ∀ p ∈ gp, p.1 < gn := fun p hp => by have := gpT p hp; omega
  refine seg_bind_wrap (wpAny_of_eq (hs _) ?_)
  refine seg_bind_wrap (wpAny_standAt ?_)
  refine seg_bind_wrap (wpAny_holding ?_)
  rw [cd.over]
  -- behind the call
  have frA : (resS Z s1).gens[gn]? = some (.fresh c') := by
    have zg : Z gn = none := nz_of pz1.hp hfresh (fun ⟨_, _, _, _, _, z⟩ => nomatch z)
    exact res_at zg hfresh
  have bareA : PyProof.Rows.AllBare (resS Z s1).gens := res_bare pz1.hz bare1
  have isgA : (resS Z s1).heap.IsGen a' gn := isg
  have egoA : (resS Z s1).heap.get? a' = some go := ego
  have kpA : ∀ b o, sc.heap.get? b = some o → (resS Z s1).heap.get? b = some o := kp1
  have osA : (resS Z s1).os = sc.os := os1
  have heA : ∀ b o, s1.heap.get? b = some o → (resS Z s1).heap.get? b = some o := fun b o e => e
  have ownA := pz1.own'
  have gkA := pz1.gk
  have gfA := pz1.gf
  generalize resS Z s1 = sA at frA bareA isgA egoA kpA osA heA ownA gkA gfA ⊢
  have IA : Inv (G.cx s0 B.H0 (EW S C ds B)) pins σ H1 sA := I1.call' (s' := sA) (ch := []) osA (Un.kept kpA) (I1.hok.kept kpA) bareA fun b z => by simp at z
  refine wpAny_pyIter_gen isgA ?_
  refine seg_call fun p => ?_
  have cl := ycd_loop (c' := .forLoop (.Name x xp) (.ref a') body [] G.env) (Kf := Kf) (Jf := Jf) (lv := lv) (p := p) cd rfl rfl
  have hh : (G.A.deeper G.env).handled = none := gd0.hd
  let G2 : GP := GP.mk G.P G.w S.K G.mg G.base GN Gq Gsc Gf Gcd (G.A.deeper G.env).in1 (G.env :: G.outer) sc.heap.objs.size [(a', go)] gn
  let C2 : YCx J := { gY i mOf dOf yb C.toYDt nx with W := WY G S C mOf dOf pins sc.heap.objs.size g1.F }
  -- ready to go on, wherever it is woken
  let RDY : Nat → GenState → List D → List (Addr × Obj) → Gp → Hp → (Shared → Hp → J → Prop) → Prop := fun qn gs is px gpG Fx pr =>
    ∀ (sw s0 : Shared) (B : Bs) (σ : St) (g : Gh) (H : Hp) (j : J), Inv (G.cx s0 B.H0 (EW S C (dOf is) B)) (px ++ pins) σ H sw → Ok S B g M0 σ H (mOf is) j → C.W (dOf is) s0 B → s0.heap.objs.size = G.L → Same Fx g.F → GFr sw.gens → gn < sw.gens.size → GK G2 gpG sw.gens → pr sw H j →
      gs.Goes (model G.P G.w) (G.A.deeper G.env).in1 (YR G2 S C2) (YP G2 S C2) qn (.send .none) (sw.setGen gn .running)
  have hfs : frs (G.env :: G.outer) = G.L :: frs G.outer := rfl
  have yL : G.L < sc.heap.objs.size := I1.lt
  have yC : ∀ x c, G.env.cells.lookup x = some c → c < sc.heap.objs.size := fun x c e => by obtain ⟨v, o, ho, _⟩ := I1.cell x c e; exact Heap.lt_size ho
  have yfs : ∀ b ∈ frs G.outer, b < sc.heap.objs.size := fun b hb => by obtain ⟨_, o, ho, _⟩ := I1.funs.mem hb; exact Heap.lt_size ho
  have yp : ∀ p ∈ G.pn ++ pins, p.1 < sc.heap.objs.size := fun p hp => Heap.lt_size (I1.pin p hp).1
  have back : ∀ {is' : List D} {s0' : Shared} {B' : Bs} {pinsG : List (Addr × Obj)} {gpG : Gp} {σG : St} {gG : Gh} {HG : Hp} {mG : Sd} {jG : J} {s2 : Shared}, GAt G2 S C2 is' s0' B' pinsG gpG σG gG HG mG jG s2 →
      ∃ oL s0w Bw σw gc, Inv (G.cx s0w Bw.H0 (EW S C (dOf is') Bw)) ((a', go) :: (sc.heap.objs.size, oL) :: (pinsG ++ pins)) σw HG s2 ∧ Ok S Bw gc M0 σw HG (mOf is') jG ∧ Same gG.F gc.F ∧ Same g1.F gc.F ∧ s2.heap.get? sc.heap.objs.size = some oL ∧ C.W (dOf is') s0w Bw ∧ s0w.heap.objs.size = G.L := by
    intro is' s0' B' pinsG gpG σG gG HG mG jG s2 at1
    obtain ⟨sw, s0w, Bw, σw, gw, jw, agree, os0, Iw, okw, eB, subw, wrw, szw⟩ := at1.wr
    have un : Un (frs (G.env :: G.outer)) [] B'.H0 HG s0'.heap s2.heap := at1.inv.base
    obtain ⟨mL, ⟨oL, es, ep, hoL, hdL, _⟩, _⟩ := at1.inv.loc
    have hoL : s2.heap.get? sc.heap.objs.size = some oL := hoL
    have neL : ∀ b, sc.heap.objs.size ≤ b → b ≠ G.L ∧ b ∉ frs G.outer := fun b hb => ⟨fun z => by rw [z] at hb; exact absurd (Nat.lt_of_lt_of_le yL hb) (Nat.lt_irrefl _), fun z => absurd (Nat.lt_of_lt_of_le (yfs b z) hb) (Nat.lt_irrefl _)⟩
    have Ib : Inv (G.cx s0w Bw.H0 (EW S C (dOf is') Bw)) ((a', go) :: (sc.heap.objs.size, oL) :: (pinsG ++ pins)) σw HG s2 := by
      refine inv_back Iw agree (at1.inv.os.trans os0) un at1.inv.hok at1.inv.bare yL yC fun p hp => ?_
      have old : p ∈ G.pn ++ pins → s2.heap.get? p.1 = some p.2 ∧ HG p.1 = none ∧ p.1 ≠ G.L ∧ p.1 ∉ frs G.outer ∧ ∀ v, p.2.data ≠ .cell v := fun hp => by
        obtain ⟨p1, p2, p3, p4, p5⟩ := Iw.pin p hp
        have p6 : p.1 ∉ frs (G.env :: G.outer) := by rw [hfs]; exact fun z => (List.mem_cons.mp z).elim p3 p4
        have p7 := (agree _ (yp p hp)).trans p1
        exact ⟨un.keep _ _ p7 p2 p6 (by simp), un.free _ _ p7 p2 (by simp), p3, p4, p5⟩
      rcases List.mem_append.mp hp with hp | hp
      · exact old (List.mem_append_left _ hp)
      rcases List.mem_cons.mp hp with hp | hp
      · obtain ⟨p1, p2, _, _, _⟩ := at1.inv.pin (a', go) (List.mem_append_left _ (List.mem_singleton.mpr rfl))
        rw [hp]
        exact ⟨p1, p2, (neL a' (Nat.le_of_lt aL)).1, (neL a' (Nat.le_of_lt aL)).2, ngo⟩
      rcases List.mem_cons.mp hp with hp | hp
      · rw [hp]
        exact ⟨hoL, at1.inv.free, (neL _ (Nat.le_refl _)).1, (neL _ (Nat.le_refl _)).2, fun v z => by rw [hdL] at z; cases z⟩
      rcases List.mem_append.mp hp with hp | hp
      · obtain ⟨p1, p2, _, p4, p5⟩ := at1.inv.pin p (List.mem_append_right _ hp)
        have p4 : p.1 ∉ frs (G.env :: G.outer) := p4
        rw [hfs] at p4
        exact ⟨p1, p2, fun z => p4 (by rw [z]; exact List.mem_cons_self), fun z => p4 (List.mem_cons_of_mem _ z), p5⟩
      · exact old (List.mem_append_right _ hp)
    have pp := okb_post at1.ok.b
    rw [eB] at pp
    obtain ⟨le, okc⟩ := post_clean okw.b pp
    exact ⟨oL, s0w, Bw, σw, _, Ib, ⟨okc, okw.s.le le⟩, at1.ok.b.fg, subw.trans le.f, hoL, wrw, szw⟩
  have unpin : ∀ {s0w : Shared} {H0w : Hp} {Ew : XK} {oL : Obj} {pinsG : List (Addr × Obj)} {σ5 : St} {H5 : Hp} {s6 : Shared}, Inv (G.cx s0w H0w Ew) ((a', go) :: (sc.heap.objs.size, oL) :: (pinsG ++ pins)) σ5 H5 s6 → Inv (G.cx s0w H0w Ew) pins σ5 H5 s6 := fun I6 => I6.pins_of fun p hp => I6.pin p (List.mem_append_right _ (List.mem_cons_of_mem _ (List.mem_cons_of_mem _ (List.mem_append_right _ hp))))
  have turn : ∀ (qn nn : Nat) (is : List D) (s₀ s s0 : Shared) (B : Bs) (px : List (Addr × Obj)) (gpG : Gp) (gs : GenState) (Fx : Hp) (pr : Shared → Hp → J → Prop) (σ : St) (g : Gh) (H : Hp) (j : J), qn + is.length = sizeLine → nn + (dOf is).length = sizeLine → GAt G S C (dOf is) s0 B (px ++ pins) gp σ g H (mOf is) j s → Same Fx g.F → s.gens[gn]? = some gs → GK G2 gpG s.gens → s.heap.IsGen a' gn → (∀ T, pr { s with gens := T } H j) → RDY qn gs is px gpG Fx pr →
      Seg (model G.P G.w) G.A R (YP G S C) nn s₀ (.forLoop (.Name x xp) (.ref a') body [] G.env) ((model G.P G.w).den (.forLoop (.Name x xp) (.ref a') body [] G.env)) (.ret (retK G Kf Jf gd lv) none (gd false) (lv []) c p [] :: fs) s := by
    intro qn
    induction qn using Nat.strongRecOn with
    | ind qn ih =>
    intro nn is s₀ s s0 B px gpG gs Fx pr σ g H j hq hn a sub hgs gkG hig hpr rdy
    refine seg_forLoop ?_
    rw [cl.over]
    obtain ⟨Z2, T2, p2, e2, hT2, sz2, hi2⟩ := Pz.startB gn a.inv.bare a.own a.gk a.gf gpl
    have I2 := a.inv.call' (s' := { s with gens := T2 }) (ch := []) rfl Un.refl a.inv.hok hT2 fun b z => by simp at z
    have hgl : gn < s.gens.size := (Array.getElem?_eq_some_iff.mp hgs).1
    have hgs2 : T2[gn]? = some gs := (hi2 gn (Nat.le_refl _)).2.trans hgs
    have gkG2 : GK G2 gpG T2 := fun q hq => by
      obtain ⟨z1, z2, z3⟩ := gkG q hq
      exact ⟨(hi2 q.1 (Nat.le_of_lt z3)).2.trans z1, z2, z3⟩
    have goes := rdy { s with gens := T2 } s0 B σ g H j I2 a.ok a.wr a.sz sub p2.hg (by show gn < T2.size; rw [sz2]; exact hgl) gkG2 (hpr T2)
    rw [← e2]
    let Q1 : Option Value → Shared → Prop := fun r s2p => match r with
      | some v => ∃ (s2 : Shared) (gs' : GenState) (sX : Shared), s2p = s2.setGen gn gs' ∧ gn < s2.gens.size ∧ gs'.bare = true ∧ isSusp gs' = true ∧ YP G2 S C2 (qn - 1) sX v s2 (fun r' s'' => match (generalizing := false) qn with | 0 => False | m + 1 => gs'.Goes (model G.P G.w) (G.A.deeper G.env).in1 (YR G2 S C2) (YP G2 S C2) m r' s'')
      | none => ∃ (s2 : Shared) (h' : Heap), s2p = { s2.setGen gn .finished with heap := h' } ∧ (∀ b o, s2.heap.get? b = some o → h'.get? b = some o) ∧ ∃ ds s0 B pins gp σ g H m j, GAt G2 S C2 ds s0 B pins gp σ g H m j s2 ∧ C2.dn ds j ∧ qn + ds.length = sizeLine
    refine wpAny_mono (p2.go stillX (Q1 := Q1) (wpAny_gsz (n := gn + 1) (by show gn + 1 ≤ T2.size; rw [sz2]; exact hgl) (next_s (Y := YP G2 S C2) (F := fun n _ s2 => ∃ ds s0 B pins gp σ g H m j, GAt G2 S C2 ds s0 B pins gp σ g H m j s2 ∧ C2.dn ds j ∧ n + ds.length = sizeLine)
      (Er := fun e s2 => ∃ ds s0 B, C2.W ds s0 B ∧ CX G2.P G2.w G2.outer B.H0 s0 (EW S C2 ds B) e s2 ∧ ∀ p ∈ G2.pn, s2.heap.get? p.1 = some p.2) hh I2.nolimit hr.depth hig hgs2 goes (fun v s2 gs' hb' hu' hv hsz => ⟨s2, gs', _, rfl, by rw [setGen_size] at hsz; exact hsz, hb', hu', hv⟩) (fun s2 hp' h' hk _ => ⟨s2, h', rfl, hk, hp'⟩) fun e s2 he => ?_)) (fun r s2p pz2 h => ?_)) (fun _ _ z => z) fun x s3 hx => loop_exc cd ky rfl rfl a.wr hx
    · obtain ⟨ds, s0, B, wr, cx, hpn⟩ := he
      obtain ⟨_, _, _, _, _, _, _, _, _, _, _, _, _, _, _, _, z, _⟩ := cx
      exact (show False from z).elim
    cases r with
    | none =>
      obtain ⟨s2, h', rfl, hk, is', s0', B', pinsG, gpG', σG, gG, HG, mG, jG, at1, hdn, hct⟩ := h
      obtain ⟨oL, s0w, Bw, σw, gc, Ib, okc, sub1, sub2, hoL, wrw, szw⟩ := back at1
      have I3 : Inv (G.cx s0w Bw.H0 (EW S C (dOf is') Bw)) pins σw HG { s2.setGen gn .finished with heap := h' } := unpin (Ib.call' (s' := { s2.setGen gn .finished with heap := h' }) (ch := []) rfl (Un.kept hk) (Ib.hok.kept hk) (allBare_setGen Ib.bare rfl) fun b z => by simp at z)
      have hl : is'.length = is.length := by omega
      exact leaf_ok .next (ky.ok nn (dOf is') s₀ _ s0w Bw σw gc HG (mOf is') jG (by rw [hlO, hl, ← hlO]; exact hn) ⟨wrw, szw, pz2.inv I3, okc, pz2.own', pz2.gk, pz2.gf⟩ ((fb.trans l1.f).trans sub2) hdn)
    | some v =>
      obtain ⟨s2, gs', sX, rfl, hsz, hb', hu', is', d, jG, kk, s0', B', pinsG, gpG', σG, gG, HG, mG, vv, hcnt, rvv, rpd, at1, hkk, hkap⟩ := h
      obtain ⟨oL, s0w, Bw, σw, gc, Ib, okc, sub1, sub2, hoL, wrw, szw⟩ := back at1
      obtain ⟨d', is2, his, hbody⟩ := hkk
      obtain ⟨rfl, e2'⟩ := List.append_inj' his rfl
      obtain rfl : d = d' := by simpa using e2'
      have hl : is'.length = is.length := by
        cases qn with
        | zero =>
          have h2 : LINE + 2 ≤ sizeLine := by rw [sizeLine_eq]; decide
          have h3 := hcnt.1
          have h4 := hcnt.2
          omega
        | succ q => have := hcnt.1; omega
      have zg : Z2 gn = none := (hi2 gn (Nat.le_refl _)).1
      have gB : (resS Z2 (s2.setGen gn gs')).gens[gn]? = some gs' := res_at zg (setGen_at hsz)
      have gkB : GK G2 gpG' (resS Z2 (s2.setGen gn gs')).gens := fun q hq => by
        obtain ⟨z1, z2, z3⟩ := at1.gk q hq
        refine ⟨?_, z2, z3⟩
        exact res_at (hi2 q.1 (Nat.le_of_lt z3)).1 (by rw [setGen_ne (Nat.ne_of_gt z3)]; exact z1)
      have ownB := pz2.own'
      have gkO := pz2.gk
      have gfB := pz2.gf
      have I3 : Inv (G.cx s0w Bw.H0 (EW S C (dOf is') Bw)) (((a', go) :: (sc.heap.objs.size, oL) :: pinsG) ++ pins) σw HG (resS Z2 (s2.setGen gn gs')) := Ib.call' (s' := resS Z2 (s2.setGen gn gs')) (ch := []) rfl Un.refl Ib.hok (res_bare pz2.hz (allBare_setGen Ib.bare hb')) fun b z => by simp at z
      show wpAny _ _ (pure ()) _ _ _
      refine wpAny_pure (wpAny_assign_Name (wpAny_mono (store_g I3 hN hi hloc rvv) (fun _ s4 h4 => ?_) fun x s4 hx => loop_exc cd ky rfl rfl wrw hx))
      obtain ⟨I4, eg4⟩ := h4
      have ok4 : Ok S Bw gc M0 (σw.set i (some vv)) HG ((mOf is').set i (some d)) jG := ⟨okc.b, okc.s.set_fr rfl (rpd.mono sub1)⟩
      have at4 : GAt G S C (dOf is') s0w Bw (((a', go) :: (sc.heap.objs.size, oL) :: pinsG) ++ pins) ((gn, gs') :: (gpG' ++ gp)) (σw.set i (some vv)) gc HG ((mOf is').set i (some d)) jG s4 := ⟨wrw, szw, I4, ok4, by rw [eg4]; exact ownB, fun p hp => by
        rw [eg4]
        rcases List.mem_cons.mp hp with rfl | hp
        · exact ⟨gB, hu', gnG⟩
        rcases List.mem_append.mp hp with hp | hp
        · obtain ⟨z1, z2, z3⟩ := gkB p hp
          exact ⟨z1, z2, Nat.lt_trans gnG z3⟩
        · exact gkO p hp, by rw [eg4]; exact gfB⟩
      refine hb.run C _ gc.F R nn (dOf is') s₀ _ _ _ _ id id s4 s0w Bw _ ((gn, gs') :: (gpG' ++ gp)) _ gc HG _ jG cl (by rw [hlO, hl, ← hlO]; exact hn) ⟨fun n2 ds2 s2' s6 s02 B2 σ2 g2' H2' m2 j2' hn2 a6 fb6 h6 => ?_, fun n2 ds2 s2 s3 s02 B2 x wr hx => loop_exc cd ky rfl rfl wr hx⟩ at4 (Same.refl _) hbody
      obtain ⟨em, ed, hk2⟩ := h6
      subst em ed
      have rdy2 : ∀ (sw s0 : Shared) (B : Bs) (σ : St) (g : Gh) (H : Hp) (j : J), Inv (G.cx s0 B.H0 (EW S C (dOf (is' ++ [d])) B)) (((a', go) :: (sc.heap.objs.size, oL) :: pinsG) ++ pins) σ H sw → Ok S B g M0 σ H (mOf (is' ++ [d])) j → C.W (dOf (is' ++ [d])) s0 B → s0.heap.objs.size = G.L → Same gc.F g.F → GFr sw.gens → gn < sw.gens.size → GK G2 gpG' sw.gens → kk j →
          match (generalizing := false) qn with | 0 => False | m + 1 => gs'.Goes (model G.P G.w) (G.A.deeper G.env).in1 (YR G2 S C2) (YP G2 S C2) m (.send .none) (sw.setGen gn .running) := by
        intro sw s0x Bx σx gx Hx jx Ix okx wrx szx subx gfx hszx gkx hkx
        have I6 := Ix.call' (s' := sw.setGen gn .running) (ch := []) rfl Un.refl Ix.hok (allBare_setGen Ix.bare rfl) fun b z => by simp at z
        have pL := I6.pin (sc.heap.objs.size, oL) (List.mem_append_right _ (List.mem_append_left _ (List.mem_cons_of_mem _ List.mem_cons_self)))
        have pA := I6.pin (a', go) (List.mem_append_right _ (List.mem_append_left _ List.mem_cons_self))
        refine hkap (sw.setGen gn .running) ⟨gx.F, Hx, gx.A⟩ jx
          { e0 := ⟨I6.ok.frames, by show Mod S.K G.mg G.base; rw [← hK]; exact I6.ok.mod, I6.bs, Nat.le_trans I6.ok.bsz I6.sz, I6.stack, I6.stkFree, I6.hok, I6.bare⟩
            loc := fun o ho => by
              have ho : s2.heap.get? sc.heap.objs.size = some o := ho
              rw [hoL] at ho; cases ho
              exact pL.1
            nL := pL.2.1
            pin := fun p hp => by
              have hp : p ∈ [(a', go)] ++ pinsG := hp
              rcases List.mem_append.mp hp with hp | hp
              · rw [List.mem_singleton.mp hp]; exact ⟨pA.1, pA.2.1⟩
              · have z := I6.pin p (List.mem_append_right _ (List.mem_append_left _ (List.mem_cons_of_mem _ (List.mem_cons_of_mem _ hp))))
                exact ⟨z.1, z.2.1⟩
            sub := sub1.trans subx
            fh := okx.b.fg.trans okx.b.gh
            fa := fun b o e => okx.b.ga b o (okx.b.fg b o e)
            jr := okx.b.jr
            sm := okx.b.sm
            own := by rw [setGen_size]; exact hszx
            gk := fun p hp => by
              obtain ⟨z1, z2, z3⟩ := gkx p hp
              exact ⟨by rw [setGen_ne (Nat.ne_of_gt z3)]; exact z1, z2, z3⟩
            gf := GFr.set gfx trivial } ?_ hkx
        exact ⟨sw.setGen gn .running, s0x, Bx, σx, gx, jx, fun b hb => cut_get hb, rfl, I6.pins_of fun p hp => I6.pin p (List.mem_append_right _ (List.mem_append_right _ hp)), okx, rfl, sub2.trans subx, wrx, szx⟩
      cases qn with
      | zero => exact (rdy2 s6 s02 B2 σ2 g2' H2' j2' a6.inv a6.ok a6.wr a6.sz fb6 a6.gf (Array.getElem?_eq_some_iff.mp (a6.gk (gn, gs') List.mem_cons_self).1).1 (fun q hq => ⟨(a6.gk q (List.mem_cons_of_mem _ (List.mem_append_left _ hq))).1, (at1.gk q hq).2⟩) hk2).elim
      | succ q' =>
        refine seg_again rfl (ih q' (Nat.lt_succ_self _) n2 (is' ++ [d]) s2' s6 s02 B2 ((a', go) :: (sc.heap.objs.size, oL) :: pinsG) gpG' gs' gc.F (fun _ _ j => kk j) σ2 g2' H2' j2' (by rw [List.length_append, List.length_singleton]; omega) hn2
          ⟨a6.wr, a6.sz, a6.inv, a6.ok, a6.own, fun p hp => a6.gk p (List.mem_cons_of_mem _ (List.mem_append_right _ hp)), a6.gf⟩ fb6 (a6.gk (gn, gs') List.mem_cons_self).1 (fun q hq => ⟨(a6.gk q (List.mem_cons_of_mem _ (List.mem_append_left _ hq))).1, (at1.gk q hq).2⟩) (hgen _ (a6.inv.pin (a', go) (List.mem_append_right _ (List.mem_append_left _ List.mem_cons_self))).1) (fun _ => hk2) rdy2)
  refine turn sizeLine nn [] s₀ sA s0 B [] [] (.fresh c') g1.F (fun sw H' j' => sw.heap = sA.heap ∧ H' = H1 ∧ j' = j1) σ g1 H1 j1 (Nat.add_zero _) (by rw [hd0]; exact hn) ?_ (Same.refl _) frA (fun q hq => nomatch hq) isgA (fun _ => ⟨rfl, rfl, rfl⟩) ?_
  · subst hm0 hd0
    exact ⟨a.wr, a.sz, IA, ok1, ownA, gkA, gfA⟩
  · rintro sw s0x Bx σx gx Hx jx Ix okx wrx szx subx gfx hszx gkx ⟨eh, rfl, rfl⟩
    have I6 := Ix.call' (s' := sw.setGen gn .running) (ch := []) rfl Un.refl Ix.hok (allBare_setGen Ix.bare rfl) fun b z => by simp at z
    have hr1 : Room k (G.A.deeper G.env).in1 := ⟨hr.hd, by have := hr.dp; show (G.A.deeper G.env).depth + 3 * k + 5 < _; omega, by have := hr.un; show (G.A.deeper G.env).units + 1 + 16 * k + 200 < _; omega⟩
    have started := wake (G.A.deeper G.env).in1 (sw.setGen gn .running) C2 ⟨gx.F, Hx, gx.A⟩ jx ds0 hr1 hgd (by rw [setGen_size]; exact hszx) (GFr.set gfx trivial) ⟨I6.ok.frames, by rw [← hK]; exact I6.ok.mod, I6.bs, Nat.le_trans I6.ok.bsz I6.sz, I6.stack, I6.stkFree, I6.hok, I6.bare⟩
      (fun b o _ e => by show sw.heap.get? b = some o; rw [eh]; exact heA b o e) (I1.hok.fresh (Nat.le_refl _)) (I1.hok.fresh (Nat.le_of_lt aL)) ⟨okx.b.fg.trans okx.b.gh, fun b o e => okx.b.ga b o (okx.b.fg b o e), okx.b.jr, okx.b.sm, rv.mono subx⟩
      ⟨sw.setGen gn .running, s0x, Bx, σx, gx, jx, fun b hb => cut_get hb, rfl, I6, okx, rfl, subx, wrx, szx⟩ hyy
    obtain ⟨good, seg0⟩ := started
    exact ⟨rfl, seg0⟩
end
end Mp

/-! R2: a generator def that loops over itself. -/
namespace Mp
open PySem PySem.Spec L2
open PyProof.Rows hiding St
open GenW
variable {J : Type}
def recY (g : Yv J → Yv J) : Nat → Yv J
  | 0 => fun _ _ _ _ _ => False
  | m + 1 => g (recY g m)
theorem mo_recY {g : Yv J → Yv J} (h : ∀ φ, MoY φ → MoY (g φ)) : ∀ m, MoY (recY g m)
  | 0 => ⟨fun h _ _ _ => h.elim⟩
  | m + 1 => h _ (mo_recY h m)
theorem cal_recY {P : Program} {w : World} {S : Js J} {mg : Str → Option Value} {base : Heap} {x : Str} {st : Stmt} {f : Addr} {fd : FuncData} {N ps : List Str} {lev : Nat} {g : Yv J → Yv J} (F : L2.Fun S.K x x st f fd) (Sc : GScope N ps (defScope st)) (hnc : ∀ z ∈ (defScope st).names, z.2 ≠ .cell) (hcl : ∀ n, cellsFrom n (defScope st).names [] = []) (hm : mg x = some (.ref f)) (hbi : Binds S.K fd ps [])
    (hbody : ∀ (m : Nat) (φ : Yv J), CalY S P w mg base (lev + 1 + 3 * m) x ps.length N.length φ → YBody P w S mg base N x st f (lev + 3 * m + 3) (g φ)) : ∀ m, CalY S P w mg base (lev + 1 + 3 * m) x ps.length N.length (recY g m)
  | 0 => calY_of (k := lev) F Sc hnc hcl (fun cdv A outer L pn gn good hr hgd => ⟨fun C nx Fb R n ds s₀ c fs Kf Jf gd lv s s0 B pins gp σ g H m j cd hn k a fb h => h.elim⟩) hm hbi
  | m + 1 => by
    have e : lev + 3 * m + 3 + 1 = lev + 1 + 3 * (m + 1) := by omega
    exact e ▸ calY_of (k := lev + 3 * m + 3) F Sc hnc hcl (hbody m _ (cal_recY F Sc hnc hcl hm hbi hbody m)) hm hbi
end Mp

/-! R3: range with three arguments. -/
namespace Mp
open PySem PySem.Spec L2
open PyProof.Rows hiding St
variable {J : Type}
def rngC (lo c : Int) (n : Nat) : List D := (List.range n).map fun i => .int (lo + (i : Nat) * c)
theorem rngC_length {lo c : Int} {n : Nat} : (rngC lo c n).length = n := by unfold rngC; simp
theorem rngC_get {lo c : Int} {n i : Nat} (h : i < n) : (rngC lo c n)[i]? = some (.int (lo + (i : Nat) * c)) := by unfold rngC; simp [h]
def iRng3D (f f2 f3 : Ev J) (m : Sd) (j : J) (P : List D → J → Prop) (E : XP J) : Prop :=
  f m j (fun d j1 => f2 m j1 (fun d2 j2 => f3 m j2 (fun d3 j3 => ∃ a b c n, d = .int a ∧ d2 = .int b ∧ d3 = .int c ∧ RgC a b c n ∧ P (rngC a c n) j3) E) E) E
instance {f1 f2 f3 : Ev J} [ha : MoE f1] [hb : MoE f2] [hc : MoE f3] : MoA (iRng3D f1 f2 f3) := ⟨fun h q x => ha.mo h (fun _ _ p => hb.mo p (fun _ _ p => hc.mo p (fun _ _ ⟨a, b, c, n, e1, e2, e3, e4, p⟩ => ⟨a, b, c, n, e1, e2, e3, e4, q _ _ p⟩) x) x) x⟩
section
variable {S : Js J} {B : Bs} {M : Nat → Bool} {W : WX} {X : Cx} {a b c tg : Expr} {fa fb fc : Ev J} {p pos : Pos}
theorem walkD_rngC {lo c : Int} {n : Nat} {g : Gh} {k : Bool} : WalkD S (Itc lo c n) (rngC lo c n) k false g := by
  unfold WalkD
  rw [rngC_length]
  exact (walk_rangeC (lo := lo) (c := c) (n := n)).mono (fun _ _ => trivial) fun i H x H' hi _ ⟨e1, e2⟩ => ⟨_, rngC_get hi, .inl ⟨e1, by rw [e2]; exact .int _⟩⟩
theorem i_rng3 (hg : Gl X "range") (hm : X.mg "range" = none) (ha : PE X a (rdE S B M W .mix fa)) (hb : PE X b (rdE S B M W .mix fb)) (hc : PE X c (rdE S B M W .mix fc)) (hs : starEach [a, b, c] X.env = (false, eval a X.env) :: starEach [b, c] X.env := by rfl) (hs2 : starEach [b, c] X.env = (false, eval b X.env) :: starEach [c] X.env := by rfl) (hs3 : starEach [c] X.env = [(false, eval c X.env)] := by rfl) (hpl : (backTo pos (starEach [b, c] X.env)).any (·.1) = false := by rfl) :
    PI X tg (.Call (.Name "range" p) [a, b, c] [] pos) (rdI S B M W true false (iRng3D fa fb fc)) :=
  PI.imp (pi_range3 hg hm (pa_cons ha (pa_cons hb (pa_cons hc pa_nil hs3) (by rw [hs2])) hs) hs hpl) fun r H R ⟨g, m, j, P, E, ok, hf, q, xo⟩ => by
    exact ⟨g, m, j, _, E, ok, hf, fun d j1 g1 v H1 h1 l1 ok1 w => ⟨g1, m, _, _, E, ok1, h1, fun d2 j2 g2 v2 H2 h2 l2 ok2 w2 => ⟨g2, m, _, _, E, ok2, h2, fun d3 j3 g3 v3 H3 ⟨x, y, z, n, e1, e2, e3, rg, pp⟩ l3 ok3 w3 => ⟨x, y, z, n, by subst e1 e2 e3; rw [int_of w, int_of w2, int_of w3], rg, q _ _ g3 H3 _ pp ((l1.trans l2).trans l3) ok3 walkD_rngC⟩, (xo.le l1.f).le l2.f⟩, xo.le l1.f⟩, xo⟩
end
end Mp

/-! R4: < of nested tuples of ints that are alike. -/
namespace Mp
open PySem PySem.Spec L2
open PyProof.Rows hiding St
variable {J : Type}
def rLtP (K : PySem.W.Frag) : R2 := fun x y H Q => ∃ p q, Dp K H x p ∧ Dp K H y q ∧ PySem.W.alike p q = true ∧ p ≠ .none ∧ p.depth ≤ 60 ∧ Q (.bl (PySem.W.dataLt p q)) H
noncomputable def ltPD (x y : D) : Option D := match py x, py y with
  | some p, some q => open Classical in if PySem.W.alike p q = true ∧ p ≠ .none ∧ p.depth ≤ 60 ∧ p.hasDict = false ∧ q.hasDict = false then some (.bl (PySem.W.dataLt p q)) else none
  | _, _ => none
theorem op_ltP {X : Cx} (hu : X.A.units + 64 < cLine) : OpR X (compareOp .Lt) (rLtP X.K) := by
  intro pins s σ H x y v u Q I rx ry h
  obtain ⟨p, q, hp, hq, ha, hn, hd, h⟩ := h
  obtain ⟨as, r1⟩ := Dp.reads I p x v hp rx
  obtain ⟨bs, r2⟩ := Dp.reads I q y u hq ry
  exact PySem.W.rcLt_alike p q _ _ _ _ _ _ r1 r2 ha hn (Nat.lt_of_le_of_lt (Nat.add_le_add_left (Nat.le_trans (Nat.min_le_left _ _) hd) _) (Nat.lt_of_le_of_lt (by omega) hu)) _ _ _ _ ⟨.bl _, H, I, rfl, h⟩
section
variable {S : Js J} {X : Cx}
theorem kLtP (hK : X.K = S.K) (hu : X.A.units + 64 < cLine) : OpR X (compareOp .Lt) (rLtP S.K) := hK ▸ op_ltP hu
theorem s_ltP {ci : Bool} : OpS S (rLtP S.K) ltPD ci .clean := by
  intro B g H j d1 d2 d v1 v2 Q ok h1 h2 e q
  unfold ltPD at e
  split at e
  · rename_i p q' hp hq
    split at e
    · rename_i hc
      obtain ⟨c1, c2, c3, c4, c5⟩ := hc
      cases e
      exact ⟨p, q', Dp_mono (ok.sub ci) (dp_of h1 hp c4), Dp_mono (ok.sub ci) (dp_of h2 hq c5), c1, c2, c3, ans (B := B) ok q fun _ => .bl _⟩
    · cases e
  · cases e
end
end Mp

/-! R5: what a generator that loops over a generator yields. -/
namespace Mp
open PySem L2
variable {J : Type}
def flt (ik : Nat → List D) (k : Nat) : List D := ((List.range k).map ik).flatten
theorem flt_s (ik : Nat → List D) (k : Nat) : flt ik (k + 1) = flt ik k ++ ik k := by unfold flt; rw [List.range_succ, List.map_append, List.flatten_append]; simp
theorem flt_le {ik : Nat → List D} {a b : Nat} (h : a ≤ b) : ∃ r, flt ik b = flt ik a ++ r := by
  induction b with
  | zero => rw [Nat.le_zero.mp h]; exact ⟨[], by simp⟩
  | succ b ih =>
    by_cases c : a = b + 1
    · subst c; exact ⟨[], by simp⟩
    · obtain ⟨r, e⟩ := ih (by omega)
      exact ⟨r ++ ik b, by rw [flt_s, e, List.append_assoc]⟩
theorem flt_k {ik : Nat → List D} {n : Nat} (h : ∀ k, k < n → ik k ≠ []) : ∀ k, k ≤ n → k ≤ (flt ik k).length := by
  intro k
  induction k with
  | zero => intro _; exact Nat.zero_le _
  | succ k ih =>
    intro hk
    rw [flt_s, List.length_append]
    have := ih (by omega)
    have := List.length_pos_iff.mpr (h k (by omega))
    omega
section
variable {y yb ya : Yv J} {fr : Av J} {tc : Tv J} {m : Sd} {R R0 : Sd → Prop} {its its0 : List D} {i n : Nat} {ds0 : List D}
theorem yTo_forG [hb : MoY yb] (sl : Nat → Sd) (ik : Nat → List D) (hf : ∀ (j : J) (P : List D → J → Prop) (E : XP J), P ds0 j → fr m j P E) (h : YTo y (startD n ds0) its0 R0) (e0 : sl 0 = m) (hne : ∀ k, k < its0.length → ik k ≠ [])
    (ht : ∀ k d, its0[k]? = some d → YTo yb ((sl k).set i (some d)) (ik k) (fun m' => m' = sl (k + 1))) (e : its = flt ik its0.length) : YTo (yForG i y n fr yb) m its (fun m' => m' = sl its0.length) := fun C nx ds j I mo hI hd h0 => by
  subst e
  refine hf j _ _ ⟨fun is => sl is.length, fun is => ds ++ flt ik is.length, fun l => (ds ++ flt ik l).length, e0, by simp [flt], fun is => rfl, ?_⟩
  refine h _ _ [] j (fun k j' => I (flt ik k).length j') (fun is j k k' kk ⟨d, is', e, p⟩ => ⟨d, is', e, hb.mo p mo (fun _ _ _ z => z) fun _ _ _ z => ⟨z.1, z.2.1, kk _ z.2.2⟩⟩) (fun k j' hk hi => ?_) (fun m' j' _ hi => ?_) h0
  · obtain ⟨r, er⟩ := flt_le (ik := ik) (show k + 1 ≤ its0.length from hk)
    have hp := List.length_pos_iff.mpr (hne k hk)
    have hk' := flt_k (ik := ik) hne k (Nat.le_of_lt hk)
    have l1 : (flt ik its0.length).length = (flt ik k).length + (ik k).length + r.length := by rw [er, flt_s, List.length_append, List.length_append]
    have q0 := hI _ j' (by omega) hi
    refine ⟨by simp; omega, its0[k], its0.take k, by rw [List.nil_append, List.take_succ_eq_append_getElem hk], ?_⟩
    have t1 : (its0.take k).length = k := by rw [List.length_take, Nat.min_eq_left (Nat.le_of_lt hk)]
    have t2 : (([] : List D) ++ its0.take (k + 1)).length = k + 1 := by rw [List.nil_append, List.length_take, Nat.min_eq_left hk]
    show yb C (fun m2 ds2 j2 => m2 = sl (([] : List D) ++ its0.take (k + 1)).length ∧ ds2 = ds ++ flt ik (([] : List D) ++ its0.take (k + 1)).length ∧ I (flt ik (k + 1)).length j2) ((sl (its0.take k).length).set i (some its0[k])) (ds ++ flt ik (its0.take k).length) j'
    rw [t1, t2]
    refine ht k _ (List.getElem?_eq_getElem hk) C _ (ds ++ flt ik k) j' (fun q j2 => I ((flt ik k).length + q) j2) mo (fun q j2 hq hi2 => ?_) (fun m2 j2 em hi2 => ⟨em, by rw [flt_s, List.append_assoc], by rw [flt_s, List.length_append]; exact hi2⟩) hi
    have q1 := hI _ j2 (by omega) hi2
    have et : (flt ik its0.length).take ((flt ik k).length + q + 1) = flt ik k ++ (ik k).take (q + 1) := by
      rw [er, flt_s, List.append_assoc, show (flt ik k).length + q + 1 = (flt ik k).length + (q + 1) by omega, List.take_length_add_append, List.take_append_of_le_length (by omega)]
    rw [et, ← List.append_assoc] at q1
    rw [List.length_append]
    exact ⟨by omega, q1.2⟩
  · rw [List.nil_append]
    exact hd _ j' rfl hi
theorem yTo_seq0 {y1 y2 : Yv J} {R1 R2 : Sd → Prop} {i1 : List D} (h1 : YTo y1 m i1 R1) (h2 : ∀ m1, R1 m1 → YTo y2 m1 [] R2) : YTo (ySeq y1 y2) m i1 R2 := by
  have := yTo_seq h1 h2
  rw [List.append_nil] at this
  exact this
theorem yTo_if {b : Bool} (hc : ∀ (j : J) (P : Bool → J → Prop) (E : XP J), P b j → tc m j P E) (ha : b = true → YTo ya m its R) (hb : b = false → YTo yb m its R) : YTo (yIf tc ya yb) m its R := fun C nx ds j I mo hI hd h0 => by
  refine hc j _ _ ?_
  cases b with
  | true => rw [if_pos rfl]; exact ha rfl C nx ds j I mo hI hd h0
  | false => rw [if_neg Bool.false_ne_true]; exact hb rfl C nx ds j I mo hI hd h0
end
end Mp

namespace Lw
open PySem PySem.Spec L2 Mp
open PyProof.Rows hiding St
def top (i : Nat) : Stmt := PySem.Challenge.pw_blockturns_k43_exchanges_numbered.main.body.getD i (.Pass ⟨0, 0, 0, 0⟩)

def bnames : List Str := ["abs", "bool", "int", "isinstance", "len", "list", "min", "range", "repr", "sorted", "sum", "tuple", "zip"]
def Blt (mg : Str → Option Value) : Prop := ∀ x ∈ bnames, mg x = none
theorem h_abs : ("abs" : Str) ∈ bnames := by decide +kernel
theorem h_bool : ("bool" : Str) ∈ bnames := by decide +kernel
theorem h_int : ("int" : Str) ∈ bnames := by decide +kernel
theorem h_isinstance : ("isinstance" : Str) ∈ bnames := by decide +kernel
theorem h_len : ("len" : Str) ∈ bnames := by decide +kernel
theorem h_list : ("list" : Str) ∈ bnames := by decide +kernel
theorem h_min : ("min" : Str) ∈ bnames := by decide +kernel
theorem h_range : ("range" : Str) ∈ bnames := by decide +kernel
theorem h_repr : ("repr" : Str) ∈ bnames := by decide +kernel
theorem h_sorted : ("sorted" : Str) ∈ bnames := by decide +kernel
theorem h_sum : ("sum" : Str) ∈ bnames := by decide +kernel
theorem h_tuple : ("tuple" : Str) ∈ bnames := by decide +kernel
theorem h_zip : ("zip" : Str) ∈ bnames := by decide +kernel
def cnames : List (Str × Int) := []
def Cst (mg : Str → Option Value) : Prop := ∀ p ∈ cnames, ∃ t, mg p.1 = some (.int p.2 t)

def tT (c k : Nat) : Bool := match c with | 0 => ([0] : List Nat).contains k | 1 => ([1, 0] : List Nat).contains k | _ => ([2, 0] : List Nat).contains k
def xfT (c : Nat) : Str := match c with | 0 => "" | 1 => "index" | _ => ""
def xnames : List (Str × Nat) := [("TurnError", 0), ("NoIndex", 1), ("NotStandard", 2)]
def xattrs : List Str := []
abbrev xn : Nat := 3
def xcT (C0 C1 C2 : Addr) (c : Nat) : Addr := match c with | 0 => C0 | 1 => C1 | _ => C2
def clsBody0 (s : Stmt) : List Stmt := match s with | .ClassDef _ _ _ b _ _ _ _ _ _ _ => b | _ => []
abbrev st_ini1 : Stmt := (clsBody0 (top 2)).getD 0 (.Pass ⟨0, 0, 0, 0⟩)
theorem sc_ini1 : FnScope ["self", "index"] ["self", "index"] (defScope st_ini1) := ⟨rfl, rfl, rfl, by decide +kernel, rfl, by decide +kernel, by decide +kernel⟩
theorem ok_ini1 {P : Program} {w : World} {K : PySem.W.Frag} {mg : Str → Option Value} {base : Heap} {f : Addr} {fd : FuncData} (F : L2.Fun K "__init__" "NoIndex.__init__" st_ini1 f fd) : FnOk P w K mg base CX0 1 f fd ["self", "index"] (spIni K "index") := ini_ok F sc_ini1 rfl (.inl rfl) (.inl rfl) (by decide) (by decide) (by decide) (by decide)

def at_Orders : List Str := ["blocks", "standard"]
theorem ha_Orders_blocks : ("blocks" : Str) ∈ at_Orders := by decide +kernel
theorem ha_Orders_standard : ("standard" : Str) ∈ at_Orders := by decide +kernel
def clT (D0 : Addr) (c : Nat) : Addr := match c with  | _ => D0


/-! ### the source: opened, drawn from -/
abbrev st_opened : Stmt := top 20
theorem sc_opened : FnScope ["_law_script", "_law_small", "_law_cell"] ["_law_script"] (defScope st_opened) := ⟨rfl, rfl, rfl, by decide +kernel, rfl, by decide +kernel, by decide +kernel⟩
theorem ok_opened {P : Program} {w : World} {K : PySem.W.Frag} {mg : Str → Option Value} {base : Heap} {f : Addr} {fd : FuncData} (hB : Blt mg) (F : L2.Fun K "_law_opened" "_law_opened" st_opened f fd) : FnG P w K mg base CX0 1 f fd ["_law_script"] (spOpenD 4303 K) := by
  refine fnG_sp F sc_opened (fun vs H Q E h => ?_) (fun cdv A outer s H vs Q E hr hgd h => ⟨tOpenD 4303 K, ?_, openD_pure (c := 4303) (by decide) rfl h⟩)
  · obtain ⟨_, _, rfl, _⟩ := h
    rfl
  · have hu := hr.units
    have nd := sc_opened.nd
    exact pss_cons (ps_set (i := 1) nd rfl (Or.inl rfl) pe_int)
      (pss_cons (ps_for PassesOwn.never rfl (pi_list (pe_slice sl_list (pv 0) po_none (po_some pe_int))) (pg_name (i := 2) nd rfl (Or.inl rfl))
        (pss_one (ps_if (pt_cmpR op_lt (pe_callB call_abs rfl (hB _ h_abs) bt_abs (pa_cons (pv 2) pa_nil)) (pe_op op_pow pe_int pe_int) (nomark _))
          (pss_one (ps_set (i := 1) nd rfl (Or.inl rfl) (pe_op op_mod (pe_op op_add (pe_op op_add (pe_op op_mulW (pv 1) pe_int) (pe_callB call_abs rfl (hB _ h_abs) bt_abs (pa_cons (pv 2) pa_nil))) (pe_op op_mulW pe_int (pe_callTy call_int1 rfl (hB _ h_int) bt_int (pa_cons (pe_cmpR op_lt (pv 2) pe_int (nomark _)) pa_nil)))) pe_int))) pss_nil)))
      (pss_one (ps_ret (pe_lst (pa_cons (pe_lc (own := [("_law_cell", 2)]) rfl nd (pi_list (pe_slice sl_list (pv 0) po_none (po_some pe_int))) (blk_of ["_law_script", "_law_small", "_law_cell"] (defScope st_opened) rfl rfl (by decide +kernel))
          (fun _ _ _ _ _ => pg_name (i := 2) nd rfl (Or.inl rfl)) (fun _ _ _ _ _ => pts_one (pt_cmpR op_ge (pe_callB call_abs rfl (hB _ h_abs) bt_abs (pa_cons (pv 2) pa_nil)) (pe_op op_pow pe_int pe_int) (nomark _)))
          (fun _ _ _ _ _ => pe_callB call_abs rfl (hB _ h_abs) bt_abs (pa_cons (pv 2) pa_nil))) (pa_cons (pv 1) (pa_cons pe_int pa_nil)))))))
abbrev st_roll : Stmt := top 21
theorem sc_roll : FnScope ["_law_deal", "_law_many", "_law_top"] ["_law_deal", "_law_many"] (defScope st_roll) := ⟨rfl, rfl, rfl, by decide +kernel, rfl, by decide +kernel, by decide +kernel⟩
theorem ok_roll {P : Program} {w : World} {K : PySem.W.Frag} {mg : Str → Option Value} {base : Heap} {cl xc : Nat → Addr} {xf : Nat → Str} {R f : Addr} {fd : FuncData} (hB : Blt mg) (F : L2.Fun K "_law_roll" "_law_roll" st_roll f fd) (hm : mg "_law_roll" = some (.ref f)) (hb : Binds K fd ["_law_deal", "_law_many"] []) : Cal (jsND K cl xc xf R) P w mg base 1 "_law_roll" 2 drawF := by
  refine ⟨⟨f, fd, ["_law_deal", "_law_many"], (fnG_sp F sc_roll (fun vs H Q E h => ?_) (fun cdv A outer s H vs Q E hr hgd h => ⟨tRoll K, ?_, roll_pure rfl (roll_spec h)⟩)).ofN, hm, F.kp, hb⟩, fun ds j P E h => ?_⟩
  · obtain ⟨_, _, _, ds, _, _, _, _, _, _, rp, hl, _⟩ := h
    rw [← rp.length, hl]
    rfl
  · have hu := hr.units
    have nd := sc_roll.nd
    exact pss_cons (ps_while PassesOwn.never (PW.pt (pw_and (pt_cmpR (op_neD hu) (pe_ix ix_list (pv 0) pe_int (fun _ _ => rfl)) (pe_lst pa_nil) (nomark _)) (pw_and1 (pt_cmpR op_eq (pe_ix ix_list (pe_ix ix_list (pv 0) pe_int (fun _ _ => rfl)) (pe_un un_neg pe_int) (fun _ _ => rfl)) pe_int (nomark _)))))
        (pss_one (ps_asg (pe_slice sl_list (pe_ix ix_list (pv 0) pe_int (fun _ _ => rfl)) po_none (po_some (pe_un un_neg pe_int))) (pg_sub (pv 0) pe_int set_list))))
      (pss_cons (ps_if (pt_cmpR (op_neD hu) (pe_ix ix_list (pv 0) pe_int (fun _ _ => rfl)) (pe_lst pa_nil) (nomark _))
        (pss_cons (ps_set (i := 2) nd rfl (Or.inl rfl) (pe_ix ix_list (pe_ix ix_list (pv 0) pe_int (fun _ _ => rfl)) (pe_un un_neg pe_int) (fun _ _ => rfl)))
          (pss_cons (ps_asg (pe_op op_cat (pe_slice sl_list (pe_ix ix_list (pv 0) pe_int (fun _ _ => rfl)) po_none (po_some (pe_un un_neg pe_int))) (pe_lst (pa_cons (pe_op op_fdivW (pv 2) (pv 1)) pa_nil))) (pg_sub (pv 0) pe_int set_list))
            (pss_one (ps_ret (pe_op op_mod (pv 2) (pv 1)))))) pss_nil)
      (pss_cons (ps_asg (pe_op op_add (pe_ix ix_list (pv 0) pe_int (fun _ _ => rfl)) pe_int) (pg_sub (pv 0) pe_int set_list))
      (pss_cons (ps_asg (pe_op op_mod (pe_op op_add (pe_op op_add (pe_op op_mulW (pe_ix ix_list (pv 0) pe_int (fun _ _ => rfl)) pe_int) (pe_op op_mulW (pe_ix ix_list (pv 0) pe_int (fun _ _ => rfl)) pe_int)) pe_int) pe_int) (pg_sub (pv 0) pe_int set_list))
      (pss_one (ps_ret (pe_op op_mod (pe_op op_fdivW (pe_op op_mod (pe_op op_add (pe_op op_mulW (pe_ix ix_list (pv 0) pe_int (fun _ _ => rfl)) (pe_ix ix_list (pv 0) pe_int (fun _ _ => rfl))) (pe_ix ix_list (pv 0) pe_int (fun _ _ => rfl))) pe_int) pe_int) (pv 1))))))) 
  · obtain ⟨k, rfl, _⟩ := h
    rfl


/-! ### Orders.__init__ -/
def f_Orders___init__ : Sv Ob := (sSeq (sOSet 0 "blocks" (eTrg (iRng1 (eVar 1))))
    (sSeq (sOSet 0 "standard" (eVar 2))
    sNil))
instance : MoS f_Orders___init__ := by unfold f_Orders___init__; infer_instance
def F_Orders___init__ : Fv Ob := runF 3 3 f_Orders___init__
instance : MoF F_Orders___init__ := inferInstanceAs (MoF (runF 3 3 f_Orders___init__))
def M_Orders___init__ : Nat → Bool := fun i => false
abbrev N_Orders___init__ : List Str := ["self", "blocks", "standard"]
abbrev st_Orders___init__ : Stmt := (clsBody (top 9)).getD 0 (.Pass ⟨0, 0, 0, 0⟩)
theorem sc_Orders___init__ : FnScope N_Orders___init__ ["self", "blocks", "standard"] (defScope st_Orders___init__) := ⟨rfl, rfl, rfl, by decide +kernel, rfl, by decide +kernel, by decide +kernel⟩
theorem b_Orders___init__ {J : Type} {S : Js J} {P : Program} {w : World} {mg : Str → Option Value} {base : Heap} {f : Addr} {cdv : Value} {A : Around} {outer : List Env} {s : Shared} {H : Hp} {E : XK} {B : Bs} (hB : Blt mg) (hC : Cst mg) (T_0 : ClsT S 0 at_Orders)
    (hr : Room 0 (A.deeper (envOfC "Orders.__init__" (defScope st_Orders___init__) s.heap.objs.size f cdv))) (hgd : (A.deeper (envOfC "Orders.__init__" (defScope st_Orders___init__) s.heap.objs.size f cdv)).guards = some []) :
    PSs (cxE P w S.K mg base N_Orders___init__ "Orders.__init__" (defScope st_Orders___init__) f cdv A outer s H E) (defBody st_Orders___init__) (rdS (jsO S) B M_Orders___init__ (WD E) f_Orders___init__) := by
  have hu := hr.units
  have hv := hv_of hr
  have hK : S.K = S.K := rfl
  have nd := sc_Orders___init__.nd
  have tk := takesE (P := P) (w := w) (K := S.K) (mg := mg) (base := base) (N := N_Orders___init__) (qual := "Orders.__init__") (scope := defScope st_Orders___init__) (f := f) (cd := cdv) (A := A) (outer := outer) (s := s) (H := H) (E := E)
  have ow := ownE (P := P) (w := w) (K := S.K) (mg := mg) (base := base) (N := N_Orders___init__) (qual := "Orders.__init__") (scope := defScope st_Orders___init__) (f := f) (cd := cdv) (A := A) (outer := outer) (s := s) (H := H) (E := E)
  exact (zC (zOSet hK T_0 ha_Orders_blocks (tR1 (hB _ h_tuple) (hB _ h_range) (toMixC (xV 1))))
    (zC (zOSet hK T_0 ha_Orders_standard (xV 2))
    s_nil))
theorem ok_Orders___init__ {J : Type} {S : Js J} {P : Program} {w : World} {mg : Str → Option Value} {base : Heap} (hB : Blt mg) (hC : Cst mg) (T_0 : ClsT S 0 at_Orders) (h : MI S.K S.cl 0 "__init__" "Orders.__init__" st_Orders___init__ ["self", "blocks", "standard"]) (hg : mg "Orders" = some (.ref (S.cl 0))) : Mkr S P w mg base 1 0 "Orders" 3 F_Orders___init__ := by
  obtain ⟨f, fd, F, hm, hb⟩ := h.ex
  exact ⟨⟨f, fd, _, hm, fnG_D F sc_Orders___init__ rfl (by decide) (fun cdv A outer s H E B hr hgd => b_Orders___init__ hB hC T_0 hr hgd), hb, hg⟩, runF_len⟩

theorem mk_Orders {J : Type} {S : Js J} {P : Program} {w : World} {K : PySem.W.Frag} {mg : Str → Option Value} {base : Heap} {cl xc : Nat → Addr} {xf : Nat → Str} (hS : Lk K cl xc xf S) (hB : Blt mg) (hC : Cst mg) (T_0 : ClsT S 0 at_Orders)  (Q_Orders___init__ : MI K cl 0 "__init__" "Orders.__init__" st_Orders___init__ ["self", "blocks", "standard"]) (g_Orders : mg "Orders" = some (.ref (cl 0))) : Mkr S P w mg base 1 0 "Orders" 3 F_Orders___init__ := by
  obtain ⟨rfl, rfl, rfl, rfl⟩ := hS
  exact ok_Orders___init__ hB hC T_0 Q_Orders___init__ g_Orders


/-! ### factorial -/
def f_p_factorial : Sv Nat := (sSeq (sSet 1 (eC (.int 1)))
    (sSeq (sFor (iRng1 (eVar 0)) (gNm 2) (sSeq (sSet 1 (eOp mulD (eVar 1) (eOp addD (eVar 2) (eC (.int 1)))))
    sNil))
    (sSeq (sRet (eVar 1))
    sNil)))
instance : MoS f_p_factorial := by unfold f_p_factorial; infer_instance
def F_p_factorial : Fv Nat := runF 3 1 f_p_factorial
instance : MoF F_p_factorial := inferInstanceAs (MoF (runF 3 1 f_p_factorial))
def M_p_factorial : Nat → Bool := fun i => false
abbrev N_p_factorial : List Str := ["many", "found", "step"]
abbrev st_p_factorial : Stmt := top 8
theorem sc_p_factorial : FnScope N_p_factorial ["many"] (defScope st_p_factorial) := ⟨rfl, rfl, rfl, by decide +kernel, rfl, by decide +kernel, by decide +kernel⟩
theorem b_p_factorial {P : Program} {w : World} {K : PySem.W.Frag} {mg : Str → Option Value} {base : Heap} {cl xc : Nat → Addr} {R f : Addr} {cdv : Value} {A : Around} {outer : List Env} {s : Shared} {H : Hp} {E : XK} {B : Bs} (hB : Blt mg) (hC : Cst mg)   
    (hr : Room 0 (A.deeper (envOfC "factorial" (defScope st_p_factorial) s.heap.objs.size f cdv))) (hgd : (A.deeper (envOfC "factorial" (defScope st_p_factorial) s.heap.objs.size f cdv)).guards = some []) :
    PSs (cxE P w K mg base N_p_factorial "factorial" (defScope st_p_factorial) f cdv A outer s H E) (defBody st_p_factorial) (rdS (jsND K cl xc xfT R) B M_p_factorial (WD E) f_p_factorial) := by
  have hu := hr.units
  have hv := hv_of hr
  have hK : K = (jsND K cl xc xfT R).K := rfl
  have nd := sc_p_factorial.nd
  have tk := takesE (P := P) (w := w) (K := K) (mg := mg) (base := base) (N := N_p_factorial) (qual := "factorial") (scope := defScope st_p_factorial) (f := f) (cd := cdv) (A := A) (outer := outer) (s := s) (H := H) (E := E)
  have ow := ownE (P := P) (w := w) (K := K) (mg := mg) (base := base) (N := N_p_factorial) (qual := "factorial") (scope := defScope st_p_factorial) (f := f) (cd := cdv) (A := A) (outer := outer) (s := s) (H := H) (E := E)
  exact (zC (zSet 1 nd cI)
    (zC (zFor (iR1 (hB _ h_range) (toMixC (xV 0))) (gN 2 nd) (zC (zSet 1 nd (bMulC (xV 1) (bAddC hK (xV 2) cI)))
    s_nil) (hp := ow))
    (zC (s_ret (xV 1))
    s_nil)))
theorem ok_p_factorial {P : Program} {w : World} {K : PySem.W.Frag} {mg : Str → Option Value} {base : Heap} {cl xc : Nat → Addr} {R f : Addr} {fd : FuncData} (hB : Blt mg) (hC : Cst mg)   (F : L2.Fun K "factorial" "factorial" st_p_factorial f fd) (hm : mg "factorial" = some (.ref f)) (hb : Binds K fd ["many"] []) :
    Cal (jsND K cl xc xfT R) P w mg base 1 "factorial" 1 F_p_factorial :=
  ⟨⟨f, fd, ["many"], fnG_D F sc_p_factorial rfl (by decide) (fun cdv A outer s H E B hr hgd => b_p_factorial hB hC    hr hgd), hm, F.kp, hb⟩, runF_len⟩


/-! ### binomial -/
def f_p_binomial : Sv Nat := (sSeq (sSet 2 (eIf (tBl (eOp geD (eVar 0) (eVar 1))) (eC (.int 1)) (eC (.int 0))))
    (sSeq (sFor (iRng1 (eOp mulD (eVar 1) (eVar 2))) (gNm 3) (sSeq (sSet 2 (eOp fdivD (eOp mulD (eVar 2) (eOp subD (eVar 0) (eVar 3))) (eOp addD (eVar 3) (eC (.int 1)))))
    sNil))
    (sSeq (sRet (eVar 2))
    sNil)))
instance : MoS f_p_binomial := by unfold f_p_binomial; infer_instance
def F_p_binomial : Fv Nat := runF 4 2 f_p_binomial
instance : MoF F_p_binomial := inferInstanceAs (MoF (runF 4 2 f_p_binomial))
def M_p_binomial : Nat → Bool := fun i => false
abbrev N_p_binomial : List Str := ["total", "some", "found", "step"]
abbrev st_p_binomial : Stmt := top 7
theorem sc_p_binomial : FnScope N_p_binomial ["total", "some"] (defScope st_p_binomial) := ⟨rfl, rfl, rfl, by decide +kernel, rfl, by decide +kernel, by decide +kernel⟩
theorem b_p_binomial {P : Program} {w : World} {K : PySem.W.Frag} {mg : Str → Option Value} {base : Heap} {cl xc : Nat → Addr} {R f : Addr} {cdv : Value} {A : Around} {outer : List Env} {s : Shared} {H : Hp} {E : XK} {B : Bs} (hB : Blt mg) (hC : Cst mg)   
    (hr : Room 0 (A.deeper (envOfC "binomial" (defScope st_p_binomial) s.heap.objs.size f cdv))) (hgd : (A.deeper (envOfC "binomial" (defScope st_p_binomial) s.heap.objs.size f cdv)).guards = some []) :
    PSs (cxE P w K mg base N_p_binomial "binomial" (defScope st_p_binomial) f cdv A outer s H E) (defBody st_p_binomial) (rdS (jsND K cl xc xfT R) B M_p_binomial (WD E) f_p_binomial) := by
  have hu := hr.units
  have hv := hv_of hr
  have hK : K = (jsND K cl xc xfT R).K := rfl
  have nd := sc_p_binomial.nd
  have tk := takesE (P := P) (w := w) (K := K) (mg := mg) (base := base) (N := N_p_binomial) (qual := "binomial") (scope := defScope st_p_binomial) (f := f) (cd := cdv) (A := A) (outer := outer) (s := s) (H := H) (E := E)
  have ow := ownE (P := P) (w := w) (K := K) (mg := mg) (base := base) (N := N_p_binomial) (qual := "binomial") (scope := defScope st_p_binomial) (f := f) (cd := cdv) (A := A) (outer := outer) (s := s) (H := H) (E := E)
  exact (zC (zSet 2 nd (e_if (tCp (op_ge) s_cmp (toMixC (xV 0)) (toMixC (xV 1))) cI cI))
    (zC (zFor (iR1 (hB _ h_range) (toMixC (bMulC (xV 1) (xV 2)))) (gN 3 nd) (zC (zSet 2 nd (bDiv (toMixC (bMulC (xV 2) (bSub (toMixC (xV 0)) (toMixC (xV 3))))) (toMixC (bAddC hK (xV 3) cI))))
    s_nil) (hp := ow))
    (zC (s_ret (xV 2))
    s_nil)))
theorem ok_p_binomial {P : Program} {w : World} {K : PySem.W.Frag} {mg : Str → Option Value} {base : Heap} {cl xc : Nat → Addr} {R f : Addr} {fd : FuncData} (hB : Blt mg) (hC : Cst mg)   (F : L2.Fun K "binomial" "binomial" st_p_binomial f fd) (hm : mg "binomial" = some (.ref f)) (hb : Binds K fd ["total", "some"] []) :
    Cal (jsND K cl xc xfT R) P w mg base 1 "binomial" 2 F_p_binomial :=
  ⟨⟨f, fd, ["total", "some"], fnG_D F sc_p_binomial rfl (by decide) (fun cdv A outer s H E B hr hgd => b_p_binomial hB hC    hr hgd), hm, F.kp, hb⟩, runF_len⟩


/-! ### Orders.ways -/
def f_Orders_ways : Sv Nat := (sSeq (sSet 3 (eComp [7] (iSeq (eLst (aCons (eVar 2) (aStar (eVar 1) aNil)))) (gNm 7) (tBl (eOp inD (eOp addD (eVar 7) (eC (.int 1))) (eVar 1))) (eVar 7)))
    (sSeq (sAsg (gTp (gsCons (gNm 4) (gsCons (gNm 5) gsNil))) (eTup (aCons (eC (.int 0)) (aCons (eC (.int 1)) aNil))))
    (sSeq (sFor (iRng1 (eOp addD (eOp mulD (eB intB (aCons (eAt 0 "standard" (eVar 0)) aNil)) (eB lenB (aCons (eVar 3) aNil))) (eC (.int 1)))) (gNm 6) (sSeq (sAug addI 4 (eOp mulD (eOp mulD (eVar 5) (eCall F_p_binomial (aCons (eB lenB (aCons (eVar 3) aNil)) (aCons (eVar 6) aNil)))) (eCall F_p_factorial (aCons (eOp subD (eB lenB (aCons (eVar 1) aNil)) (eVar 6)) aNil))))
    (sSeq (sSet 5 (eOp subD (eC (.int 0)) (eVar 5)))
    sNil)))
    (sSeq (sRet (eVar 4))
    sNil))))
instance : MoS f_Orders_ways := by unfold f_Orders_ways; infer_instance
def F_Orders_ways : Fv Nat := runF 8 3 f_Orders_ways
instance : MoF F_Orders_ways := inferInstanceAs (MoF (runF 8 3 f_Orders_ways))
def M_Orders_ways : Nat → Bool := fun i => false
abbrev N_Orders_ways : List Str := ["self", "left", "last", "pairs", "found", "sign", "glued", "block"]
abbrev st_Orders_ways : Stmt := (clsBody (top 9)).getD 2 (.Pass ⟨0, 0, 0, 0⟩)
theorem sc_Orders_ways : FnScope N_Orders_ways ["self", "left", "last"] (defScope st_Orders_ways) := ⟨rfl, rfl, rfl, by decide +kernel, rfl, by decide +kernel, by decide +kernel⟩
theorem b_Orders_ways {P : Program} {w : World} {K : PySem.W.Frag} {mg : Str → Option Value} {base : Heap} {cl xc : Nat → Addr} {R : Addr} {f : Addr} {cdv : Value} {A : Around} {outer : List Env} {s : Shared} {H : Hp} {E : XK} {B : Bs} (hB : Blt mg) (hC : Cst mg) (T_0 : ClsT (jsND K cl xc xfT R) 0 at_Orders) (C_p_binomial : Cal (jsND K cl xc xfT R) P w mg base 1 "binomial" 2 F_p_binomial) (C_p_factorial : Cal (jsND K cl xc xfT R) P w mg base 1 "factorial" 1 F_p_factorial)
    (hr : Room 1 (A.deeper (envOfC "Orders.ways" (defScope st_Orders_ways) s.heap.objs.size f cdv))) (hgd : (A.deeper (envOfC "Orders.ways" (defScope st_Orders_ways) s.heap.objs.size f cdv)).guards = some []) :
    PSs (cxE P w K mg base N_Orders_ways "Orders.ways" (defScope st_Orders_ways) f cdv A outer s H E) (defBody st_Orders_ways) (rdS (jsND K cl xc xfT R) B M_Orders_ways (WD E) f_Orders_ways) := by
  have hu := hr.units
  have hv := hv_of hr
  have hK : K = (jsND K cl xc xfT R).K := rfl
  have nd := sc_Orders_ways.nd
  have tk := takesE (P := P) (w := w) (K := K) (mg := mg) (base := base) (N := N_Orders_ways) (qual := "Orders.ways") (scope := defScope st_Orders_ways) (f := f) (cd := cdv) (A := A) (outer := outer) (s := s) (H := H) (E := E)
  have ow := ownE (P := P) (w := w) (K := K) (mg := mg) (base := base) (N := N_Orders_ways) (qual := "Orders.ways") (scope := defScope st_Orders_ways) (f := f) (cd := cdv) (A := A) (outer := outer) (s := s) (H := H) (E := E)
  exact (zC (setLc 3 [("block", 7)] nd (blk_of N_Orders_ways (defScope st_Orders_ways) rfl rfl (by decide +kernel)) (iSq hK (toClean (lsF (aC (xV 2) (a_star (k := true) hK (xV 1) aN))))) (fun _ _ _ _ _ => (gN 7 nd)) (fun _ _ _ _ _ => (ts1 (tIn (kIn hK hv) s_in (toMixC (bAddC hK (xV 7) cI)) (toMixC (xV 1))))) (fun _ _ _ _ _ => (xV 7)))
    (zC (zAsg (tpC (aC cI (aC cI aN))) (gT hK (gsC_len (gsC_len gsN_len)) (gsC (gN 4 nd) (gsC (gN 5 nd) gs0))))
    (zC (zFor (iR1 (hB _ h_range) (toMixC (bAddC hK (bMulC (kInt (hB _ h_int) (aX (toMixC (atC hK T_0 ha_Orders_standard (xV 0))) aN)) (kLen hK (hB _ h_len) (aX (toMixC (xV 3)) aN))) cI))) (gN 6 nd) (zC (zAdd 4 nd (toMixC (bMulC (bMulC (xV 5) (callC hK tk C_p_binomial (hr.mono (by decide)) hgd (aC (kLen hK (hB _ h_len) (aX (toMixC (xV 3)) aN)) (aC (xV 6) aN)))) (callC hK tk C_p_factorial (hr.mono (by decide)) hgd (aC (bSub (toMixC (kLen hK (hB _ h_len) (aX (toMixC (xV 1)) aN))) (toMixC (xV 6))) aN)))))
    (zC (zSet 5 nd (bSub (toMixC cI) (toMixC (xV 5))))
    s_nil)) (hp := ow))
    (zC (s_ret (xV 4))
    s_nil))))
theorem ok_Orders_ways {P : Program} {w : World} {K : PySem.W.Frag} {mg : Str → Option Value} {base : Heap} {cl xc : Nat → Addr} {R : Addr} (hB : Blt mg) (hC : Cst mg) (T_0 : ClsT (jsND K cl xc xfT R) 0 at_Orders) (C_p_binomial : Cal (jsND K cl xc xfT R) P w mg base 1 "binomial" 2 F_p_binomial) (C_p_factorial : Cal (jsND K cl xc xfT R) P w mg base 1 "factorial" 1 F_p_factorial) (h : MF K cl 0 "ways" "Orders.ways" st_Orders_ways ["self", "left", "last"]) : Mth (jsND K cl xc xfT R) P w mg base 2 0 "ways" 3 F_Orders_ways := by
  obtain ⟨f, fd, F, hm, hb⟩ := h.ex
  exact ⟨⟨f, fd, _, hm, fnG_D F sc_Orders_ways rfl (by decide) (fun cdv A outer s H E B hr hgd => b_Orders_ways hB hC T_0 C_p_binomial C_p_factorial hr hgd), hb⟩, runF_len⟩


/-! ### Orders.count -/
def f_Orders_count : Sv Nat := (sSeq (sRet (eMt1 0 "ways" F_Orders_ways (eVar 0) (aCons (eAt 0 "blocks" (eVar 0)) (aCons (eUn negD (eC (.int 2))) aNil))))
    sNil)
instance : MoS f_Orders_count := by unfold f_Orders_count; infer_instance
def F_Orders_count : Fv Nat := runF 1 1 f_Orders_count
instance : MoF F_Orders_count := inferInstanceAs (MoF (runF 1 1 f_Orders_count))
def M_Orders_count : Nat → Bool := fun i => false
abbrev N_Orders_count : List Str := ["self"]
abbrev st_Orders_count : Stmt := (clsBody (top 9)).getD 3 (.Pass ⟨0, 0, 0, 0⟩)
theorem sc_Orders_count : FnScope N_Orders_count ["self"] (defScope st_Orders_count) := ⟨rfl, rfl, rfl, by decide +kernel, rfl, by decide +kernel, by decide +kernel⟩
theorem b_Orders_count {P : Program} {w : World} {K : PySem.W.Frag} {mg : Str → Option Value} {base : Heap} {cl xc : Nat → Addr} {R : Addr} {f : Addr} {cdv : Value} {A : Around} {outer : List Env} {s : Shared} {H : Hp} {E : XK} {B : Bs} (hB : Blt mg) (hC : Cst mg) (T_0 : ClsT (jsND K cl xc xfT R) 0 at_Orders) (C_Orders_ways : Mth (jsND K cl xc xfT R) P w mg base 2 0 "ways" 3 F_Orders_ways)
    (hr : Room 2 (A.deeper (envOfC "Orders.count" (defScope st_Orders_count) s.heap.objs.size f cdv))) (hgd : (A.deeper (envOfC "Orders.count" (defScope st_Orders_count) s.heap.objs.size f cdv)).guards = some []) :
    PSs (cxE P w K mg base N_Orders_count "Orders.count" (defScope st_Orders_count) f cdv A outer s H E) (defBody st_Orders_count) (rdS (jsND K cl xc xfT R) B M_Orders_count (WD E) f_Orders_count) := by
  have hu := hr.units
  have hv := hv_of hr
  have hK : K = (jsND K cl xc xfT R).K := rfl
  have nd := sc_Orders_count.nd
  have tk := takesE (P := P) (w := w) (K := K) (mg := mg) (base := base) (N := N_Orders_count) (qual := "Orders.count") (scope := defScope st_Orders_count) (f := f) (cd := cdv) (A := A) (outer := outer) (s := s) (H := H) (E := E)
  have ow := ownE (P := P) (w := w) (K := K) (mg := mg) (base := base) (N := N_Orders_count) (qual := "Orders.count") (scope := defScope st_Orders_count) (f := f) (cd := cdv) (A := A) (outer := outer) (s := s) (H := H) (E := E)
  exact (zC (s_ret (mthC hK tk T_0 C_Orders_ways (hr.mono (by decide)) hgd (xV 0) (aC (atC hK T_0 ha_Orders_blocks (xV 0)) (aC (uNeg (toMixC cI)) aN))))
    s_nil)
theorem ok_Orders_count {P : Program} {w : World} {K : PySem.W.Frag} {mg : Str → Option Value} {base : Heap} {cl xc : Nat → Addr} {R : Addr} (hB : Blt mg) (hC : Cst mg) (T_0 : ClsT (jsND K cl xc xfT R) 0 at_Orders) (C_Orders_ways : Mth (jsND K cl xc xfT R) P w mg base 2 0 "ways" 3 F_Orders_ways) (h : MF K cl 0 "count" "Orders.count" st_Orders_count ["self"]) : Mth (jsND K cl xc xfT R) P w mg base 3 0 "count" 1 F_Orders_count := by
  obtain ⟨f, fd, F, hm, hb⟩ := h.ex
  exact ⟨⟨f, fd, _, hm, fnG_D F sc_Orders_count rfl (by decide) (fun cdv A outer s H E B hr hgd => b_Orders_count hB hC T_0 C_Orders_ways hr hgd), hb⟩, runF_len⟩


/-! ### is_whole -/
def f_p_is_whole : Sv Nat := (sSeq (sRet (eAnd (eUn (isiD "int") (eVar 0)) (eAnd (eNot (eUn (isiD "bool") (eVar 0))) (eChain leD leD (eVar 1) (eVar 0) (eVar 2)))))
    sNil)
instance : MoS f_p_is_whole := by unfold f_p_is_whole; infer_instance
def F_p_is_whole : Fv Nat := runF 3 3 f_p_is_whole
instance : MoF F_p_is_whole := inferInstanceAs (MoF (runF 3 3 f_p_is_whole))
def M_p_is_whole : Nat → Bool := fun i => false
abbrev N_p_is_whole : List Str := ["value", "low", "high"]
abbrev st_p_is_whole : Stmt := top 5
theorem sc_p_is_whole : FnScope N_p_is_whole ["value", "low", "high"] (defScope st_p_is_whole) := ⟨rfl, rfl, rfl, by decide +kernel, rfl, by decide +kernel, by decide +kernel⟩
theorem b_p_is_whole {P : Program} {w : World} {K : PySem.W.Frag} {mg : Str → Option Value} {base : Heap} {cl xc : Nat → Addr} {R f : Addr} {cdv : Value} {A : Around} {outer : List Env} {s : Shared} {H : Hp} {E : XK} {B : Bs} (hB : Blt mg) (hC : Cst mg)   
    (hr : Room 0 (A.deeper (envOfC "is_whole" (defScope st_p_is_whole) s.heap.objs.size f cdv))) (hgd : (A.deeper (envOfC "is_whole" (defScope st_p_is_whole) s.heap.objs.size f cdv)).guards = some []) :
    PSs (cxE P w K mg base N_p_is_whole "is_whole" (defScope st_p_is_whole) f cdv A outer s H E) (defBody st_p_is_whole) (rdS (jsND K cl xc xfT R) B M_p_is_whole (WD E) f_p_is_whole) := by
  have hu := hr.units
  have hv := hv_of hr
  have hK : K = (jsND K cl xc xfT R).K := rfl
  have nd := sc_p_is_whole.nd
  have tk := takesE (P := P) (w := w) (K := K) (mg := mg) (base := base) (N := N_p_is_whole) (qual := "is_whole") (scope := defScope st_p_is_whole) (f := f) (cd := cdv) (A := A) (outer := outer) (s := s) (H := H) (E := E)
  have ow := ownE (P := P) (w := w) (K := K) (mg := mg) (base := base) (N := N_p_is_whole) (qual := "is_whole") (scope := defScope st_p_is_whole) (f := f) (cd := cdv) (A := A) (outer := outer) (s := s) (H := H) (E := E)
  exact (zC (s_ret (e_and (k := true) hK (e_isi hK (hB _ h_isinstance) (hB _ h_int) bt_int (toMixC (xV 0))) (e_and (k := true) hK (e_not hK (toMixC (e_isi hK (hB _ h_isinstance) (hB _ h_bool) bt_bool (toMixC (xV 0))))) (e_one (eCh (op_le) (op_le) s_cmp s_cmp (toMixC (xV 1)) (toMixC (xV 0)) (toMixC (xV 2)))))))
    s_nil)
theorem ok_p_is_whole {P : Program} {w : World} {K : PySem.W.Frag} {mg : Str → Option Value} {base : Heap} {cl xc : Nat → Addr} {R f : Addr} {fd : FuncData} (hB : Blt mg) (hC : Cst mg)   (F : L2.Fun K "is_whole" "is_whole" st_p_is_whole f fd) (hm : mg "is_whole" = some (.ref f)) (hb : Binds K fd ["value", "low", "high"] []) :
    Cal (jsND K cl xc xfT R) P w mg base 1 "is_whole" 3 F_p_is_whole :=
  ⟨⟨f, fd, ["value", "low", "high"], fnG_D F sc_p_is_whole rfl (by decide) (fun cdv A outer s H E B hr hgd => b_p_is_whole hB hC    hr hgd), hm, F.kp, hb⟩, runF_len⟩


/-! ### lighter_lengths -/
def f_p_lighter_lengths : Sv Nat := (sSeq (sRet (eOp subD (eCall F_p_binomial (aCons (eOp subD (eVar 0) (eC (.int 1))) (aCons (eOp subD (eVar 1) (eC (.int 1))) aNil))) (eCall F_p_binomial (aCons (eOp subD (eVar 0) (eVar 2)) (aCons (eOp subD (eVar 1) (eC (.int 1))) aNil)))))
    sNil)
instance : MoS f_p_lighter_lengths := by unfold f_p_lighter_lengths; infer_instance
def F_p_lighter_lengths : Fv Nat := runF 3 3 f_p_lighter_lengths
instance : MoF F_p_lighter_lengths := inferInstanceAs (MoF (runF 3 3 f_p_lighter_lengths))
def M_p_lighter_lengths : Nat → Bool := fun i => false
abbrev N_p_lighter_lengths : List Str := ["n", "blocks", "first"]
abbrev st_p_lighter_lengths : Stmt := top 11
theorem sc_p_lighter_lengths : FnScope N_p_lighter_lengths ["n", "blocks", "first"] (defScope st_p_lighter_lengths) := ⟨rfl, rfl, rfl, by decide +kernel, rfl, by decide +kernel, by decide +kernel⟩
theorem b_p_lighter_lengths {P : Program} {w : World} {K : PySem.W.Frag} {mg : Str → Option Value} {base : Heap} {cl xc : Nat → Addr} {R f : Addr} {cdv : Value} {A : Around} {outer : List Env} {s : Shared} {H : Hp} {E : XK} {B : Bs} (hB : Blt mg) (hC : Cst mg)  (C_p_binomial : Cal (jsND K cl xc xfT R) P w mg base 1 "binomial" 2 F_p_binomial) 
    (hr : Room 1 (A.deeper (envOfC "lighter_lengths" (defScope st_p_lighter_lengths) s.heap.objs.size f cdv))) (hgd : (A.deeper (envOfC "lighter_lengths" (defScope st_p_lighter_lengths) s.heap.objs.size f cdv)).guards = some []) :
    PSs (cxE P w K mg base N_p_lighter_lengths "lighter_lengths" (defScope st_p_lighter_lengths) f cdv A outer s H E) (defBody st_p_lighter_lengths) (rdS (jsND K cl xc xfT R) B M_p_lighter_lengths (WD E) f_p_lighter_lengths) := by
  have hu := hr.units
  have hv := hv_of hr
  have hK : K = (jsND K cl xc xfT R).K := rfl
  have nd := sc_p_lighter_lengths.nd
  have tk := takesE (P := P) (w := w) (K := K) (mg := mg) (base := base) (N := N_p_lighter_lengths) (qual := "lighter_lengths") (scope := defScope st_p_lighter_lengths) (f := f) (cd := cdv) (A := A) (outer := outer) (s := s) (H := H) (E := E)
  have ow := ownE (P := P) (w := w) (K := K) (mg := mg) (base := base) (N := N_p_lighter_lengths) (qual := "lighter_lengths") (scope := defScope st_p_lighter_lengths) (f := f) (cd := cdv) (A := A) (outer := outer) (s := s) (H := H) (E := E)
  exact (zC (s_ret (bSub (toMixC (callC hK tk C_p_binomial (hr.mono (by decide)) hgd (aC (bSub (toMixC (xV 0)) (toMixC cI)) (aC (bSub (toMixC (xV 1)) (toMixC cI)) aN)))) (toMixC (callC hK tk C_p_binomial (hr.mono (by decide)) hgd (aC (bSub (toMixC (xV 0)) (toMixC (xV 2))) (aC (bSub (toMixC (xV 1)) (toMixC cI)) aN))))))
    s_nil)
theorem ok_p_lighter_lengths {P : Program} {w : World} {K : PySem.W.Frag} {mg : Str → Option Value} {base : Heap} {cl xc : Nat → Addr} {R f : Addr} {fd : FuncData} (hB : Blt mg) (hC : Cst mg)  (C_p_binomial : Cal (jsND K cl xc xfT R) P w mg base 1 "binomial" 2 F_p_binomial) (F : L2.Fun K "lighter_lengths" "lighter_lengths" st_p_lighter_lengths f fd) (hm : mg "lighter_lengths" = some (.ref f)) (hb : Binds K fd ["n", "blocks", "first"] []) :
    Cal (jsND K cl xc xfT R) P w mg base 2 "lighter_lengths" 3 F_p_lighter_lengths :=
  ⟨⟨f, fd, ["n", "blocks", "first"], fnG_D F sc_p_lighter_lengths rfl (by decide) (fun cdv A outer s H E B hr hgd => b_p_lighter_lengths hB hC  C_p_binomial  hr hgd), hm, F.kp, hb⟩, runF_len⟩


/-! ### lengths_at -/
def f_p_lengths_at (φ : Fv Nat) : Sv Nat := (sSeq (sIf (tBl (eOp eqD (eVar 1) (eC (.int 1)))) (sSeq (sRet (eTup (aCons (eVar 0) aNil)))
    sNil) sNil)
    (sSeq (sPr2 3 4 (eC (.int 1)) (eOp addD (eOp subD (eVar 0) (eVar 1)) (eC (.int 1))))
    (sSeq (sWhile (tBl (eOp ltD (eVar 3) (eVar 4))) (sSeq (sSet 5 (eOp fdivD (eOp addD (eOp addD (eVar 3) (eVar 4)) (eC (.int 1))) (eC (.int 2))))
    (sSeq (sIf (tBl (eOp leD (eCall F_p_lighter_lengths (aCons (eVar 0) (aCons (eVar 1) (aCons (eVar 5) aNil)))) (eVar 2))) (sSeq (sSet 3 (eVar 5))
    sNil) (sSeq (sSet 4 (eOp subD (eVar 5) (eC (.int 1))))
    sNil))
    sNil)))
    (sSeq (sRet (eOp addD (eTup (aCons (eVar 3) aNil)) (eCall φ (aCons (eOp subD (eVar 0) (eVar 3)) (aCons (eOp subD (eVar 1) (eC (.int 1))) (aCons (eOp subD (eVar 2) (eCall F_p_lighter_lengths (aCons (eVar 0) (aCons (eVar 1) (aCons (eVar 3) aNil))))) aNil))))))
    sNil))))
instance {φ : Fv Nat} [MoF φ] : MoS (f_p_lengths_at φ) := by unfold f_p_lengths_at; infer_instance
def F_p_lengths_at : Fv Nat := recF 6 3 f_p_lengths_at 8
instance : MoF F_p_lengths_at := mo_rec (fun _ _ => inferInstance) 8
def M_p_lengths_at : Nat → Bool := fun i => false
abbrev N_p_lengths_at : List Str := ["n", "blocks", "index", "low", "high", "middle"]
abbrev st_p_lengths_at : Stmt := top 12
theorem sc_p_lengths_at : FnScope N_p_lengths_at ["n", "blocks", "index"] (defScope st_p_lengths_at) := ⟨rfl, rfl, rfl, by decide +kernel, rfl, by decide +kernel, by decide +kernel⟩
theorem b_p_lengths_at {P : Program} {w : World} {K : PySem.W.Frag} {mg : Str → Option Value} {base : Heap} {cl xc : Nat → Addr} {R f : Addr} {φ : Fv Nat} {m : Nat} {cdv : Value} {A : Around} {outer : List Env} {s : Shared} {H : Hp} {E : XK} {B : Bs} (hB : Blt mg) (hC : Cst mg)  (C_p_lighter_lengths : Cal (jsND K cl xc xfT R) P w mg base 2 "lighter_lengths" 3 F_p_lighter_lengths) (C_p_lengths_at : Cal (jsND K cl xc xfT R) P w mg base (2 + 1 + m) "lengths_at" 3 φ)
    (hr : Room (2 + 1 + m) (A.deeper (envOfC "lengths_at" (defScope st_p_lengths_at) s.heap.objs.size f cdv))) (hgd : (A.deeper (envOfC "lengths_at" (defScope st_p_lengths_at) s.heap.objs.size f cdv)).guards = some []) :
    PSs (cxE P w K mg base N_p_lengths_at "lengths_at" (defScope st_p_lengths_at) f cdv A outer s H E) (defBody st_p_lengths_at) (rdS (jsND K cl xc xfT R) B M_p_lengths_at (WD E) (f_p_lengths_at φ)) := by
  have hu := hr.units
  have hv := hv_of hr
  have hK : K = (jsND K cl xc xfT R).K := rfl
  have nd := sc_p_lengths_at.nd
  have tk := takesE (P := P) (w := w) (K := K) (mg := mg) (base := base) (N := N_p_lengths_at) (qual := "lengths_at") (scope := defScope st_p_lengths_at) (f := f) (cd := cdv) (A := A) (outer := outer) (s := s) (H := H) (E := E)
  have ow := ownE (P := P) (w := w) (K := K) (mg := mg) (base := base) (N := N_p_lengths_at) (qual := "lengths_at") (scope := defScope st_p_lengths_at) (f := f) (cd := cdv) (A := A) (outer := outer) (s := s) (H := H) (E := E)
  exact (zC (s_if (tCp (kEq hK hu) s_eq (toMixC (xV 1)) (toMixC cI)) (zC (s_ret (tpC (aC (xV 0) aN)))
    s_nil) s_nil)
    (zC (zPr2 3 4 nd (clC cI) (clC (bAddC hK (bSub (toMixC (xV 0)) (toMixC (xV 1))) cI)))
    (zC (zWhile (tCp (op_lt) s_cmp (toMixC (xV 3)) (toMixC (xV 4))) (zC (zSet 5 nd (bDiv (toMixC (bAddC hK (bAddC hK (xV 3) (xV 4)) cI)) (toMixC cI)))
    (zC (s_if (tCp (op_le) s_cmp (toMixC (callC hK tk C_p_lighter_lengths (hr.mono (by omega)) hgd (aC (xV 0) (aC (xV 1) (aC (xV 5) aN))))) (toMixC (xV 2))) (zC (zSet 3 nd (xV 5))
    s_nil) (zC (zSet 4 nd (bSub (toMixC (xV 5)) (toMixC cI)))
    s_nil))
    s_nil)) (hp := ow))
    (zC (s_ret (bAddC hK (tpC (aC (xV 3) aN)) (callC hK tk C_p_lengths_at (hr.mono (by omega)) hgd (aC (bSub (toMixC (xV 0)) (toMixC (xV 3))) (aC (bSub (toMixC (xV 1)) (toMixC cI)) (aC (bSub (toMixC (xV 2)) (toMixC (callC hK tk C_p_lighter_lengths (hr.mono (by omega)) hgd (aC (xV 0) (aC (xV 1) (aC (xV 3) aN)))))) aN))))))
    s_nil))))
theorem ok_p_lengths_at {P : Program} {w : World} {K : PySem.W.Frag} {mg : Str → Option Value} {base : Heap} {cl xc : Nat → Addr} {R f : Addr} {fd : FuncData} (hB : Blt mg) (hC : Cst mg)  (C_p_lighter_lengths : Cal (jsND K cl xc xfT R) P w mg base 2 "lighter_lengths" 3 F_p_lighter_lengths) (F : L2.Fun K "lengths_at" "lengths_at" st_p_lengths_at f fd) (hm : mg "lengths_at" = some (.ref f)) (hb : Binds K fd ["n", "blocks", "index"] []) :
    Cal (jsND K cl xc xfT R) P w mg base 11 "lengths_at" 3 F_p_lengths_at :=
  cal_rec (S := (jsND K cl xc xfT R)) (lev := 2) (g := f_p_lengths_at) F sc_p_lengths_at rfl (by decide) hm hb (fun m φ C cdv A outer s H E B hr hgd => b_p_lengths_at hB hC  C_p_lighter_lengths  C hr hgd) 8


/-! ### Orders.choices -/
def f_Orders_choices : Sv Nat := (sSeq (sRet (eComp [3] (iSeq (eVar 1)) (gNm 3) (tOrD (tNotD (tOf (eAt 0 "standard" (eVar 0)))) (tBl (eOp neD (eVar 3) (eOp addD (eVar 2) (eC (.int 1)))))) (eVar 3)))
    sNil)
instance : MoS f_Orders_choices := by unfold f_Orders_choices; infer_instance
def F_Orders_choices : Fv Nat := runF 4 3 f_Orders_choices
instance : MoF F_Orders_choices := inferInstanceAs (MoF (runF 4 3 f_Orders_choices))
def M_Orders_choices : Nat → Bool := fun i => false
abbrev N_Orders_choices : List Str := ["self", "left", "last", "block"]
abbrev st_Orders_choices : Stmt := (clsBody (top 9)).getD 1 (.Pass ⟨0, 0, 0, 0⟩)
theorem sc_Orders_choices : FnScope N_Orders_choices ["self", "left", "last"] (defScope st_Orders_choices) := ⟨rfl, rfl, rfl, by decide +kernel, rfl, by decide +kernel, by decide +kernel⟩
theorem b_Orders_choices {P : Program} {w : World} {K : PySem.W.Frag} {mg : Str → Option Value} {base : Heap} {cl xc : Nat → Addr} {R : Addr} {f : Addr} {cdv : Value} {A : Around} {outer : List Env} {s : Shared} {H : Hp} {E : XK} {B : Bs} (hB : Blt mg) (hC : Cst mg) (T_0 : ClsT (jsND K cl xc xfT R) 0 at_Orders)
    (hr : Room 0 (A.deeper (envOfC "Orders.choices" (defScope st_Orders_choices) s.heap.objs.size f cdv))) (hgd : (A.deeper (envOfC "Orders.choices" (defScope st_Orders_choices) s.heap.objs.size f cdv)).guards = some []) :
    PSs (cxE P w K mg base N_Orders_choices "Orders.choices" (defScope st_Orders_choices) f cdv A outer s H E) (defBody st_Orders_choices) (rdS (jsND K cl xc xfT R) B M_Orders_choices (WD E) f_Orders_choices) := by
  have hu := hr.units
  have hv := hv_of hr
  have hK : K = (jsND K cl xc xfT R).K := rfl
  have nd := sc_Orders_choices.nd
  have tk := takesE (P := P) (w := w) (K := K) (mg := mg) (base := base) (N := N_Orders_choices) (qual := "Orders.choices") (scope := defScope st_Orders_choices) (f := f) (cd := cdv) (A := A) (outer := outer) (s := s) (H := H) (E := E)
  have ow := ownE (P := P) (w := w) (K := K) (mg := mg) (base := base) (N := N_Orders_choices) (qual := "Orders.choices") (scope := defScope st_Orders_choices) (f := f) (cd := cdv) (A := A) (outer := outer) (s := s) (H := H) (E := E)
  exact (zC (s_ret (lcF [("block", 3)] nd (blk_of N_Orders_choices (defScope st_Orders_choices) rfl rfl (by decide +kernel)) (iSq hK (xV 1)) (fun _ _ _ _ _ => (gN 3 nd)) (fun _ _ _ _ _ => (ts1 (PW.pt (t_or (t_not (tTr hK (toMixC (atC hK T_0 ha_Orders_standard (xV 0))))) (t_or1 (tCp (kNe hK hu) s_ne (toMixC (xV 3)) (toMixC (bAddC hK (xV 2) cI)))))))) (fun _ _ _ _ _ => (xV 3))))
    s_nil)
theorem ok_Orders_choices {P : Program} {w : World} {K : PySem.W.Frag} {mg : Str → Option Value} {base : Heap} {cl xc : Nat → Addr} {R : Addr} (hB : Blt mg) (hC : Cst mg) (T_0 : ClsT (jsND K cl xc xfT R) 0 at_Orders) (h : MF K cl 0 "choices" "Orders.choices" st_Orders_choices ["self", "left", "last"]) : Mth (jsND K cl xc xfT R) P w mg base 1 0 "choices" 3 F_Orders_choices := by
  obtain ⟨f, fd, F, hm, hb⟩ := h.ex
  exact ⟨⟨f, fd, _, hm, fnG_D F sc_Orders_choices rfl (by decide) (fun cdv A outer s H E B hr hgd => b_Orders_choices hB hC T_0 hr hgd), hb⟩, runF_len⟩


/-! ### without_block -/
def f_p_without_block : Sv Nat := (sSeq (sRet (eB tupleB (aCons (eComp [2] (iSeq (eVar 0)) (gNm 2) (tBl (eOp neD (eVar 2) (eVar 1))) (eVar 2)) aNil)))
    sNil)
instance : MoS f_p_without_block := by unfold f_p_without_block; infer_instance
def F_p_without_block : Fv Nat := runF 3 2 f_p_without_block
instance : MoF F_p_without_block := inferInstanceAs (MoF (runF 3 2 f_p_without_block))
def M_p_without_block : Nat → Bool := fun i => false
abbrev N_p_without_block : List Str := ["left", "block", "other"]
abbrev st_p_without_block : Stmt := top 10
theorem sc_p_without_block : FnScope N_p_without_block ["left", "block"] (defScope st_p_without_block) := ⟨rfl, rfl, rfl, by decide +kernel, rfl, by decide +kernel, by decide +kernel⟩
theorem b_p_without_block {P : Program} {w : World} {K : PySem.W.Frag} {mg : Str → Option Value} {base : Heap} {cl xc : Nat → Addr} {R f : Addr} {cdv : Value} {A : Around} {outer : List Env} {s : Shared} {H : Hp} {E : XK} {B : Bs} (hB : Blt mg) (hC : Cst mg)   
    (hr : Room 0 (A.deeper (envOfC "without_block" (defScope st_p_without_block) s.heap.objs.size f cdv))) (hgd : (A.deeper (envOfC "without_block" (defScope st_p_without_block) s.heap.objs.size f cdv)).guards = some []) :
    PSs (cxE P w K mg base N_p_without_block "without_block" (defScope st_p_without_block) f cdv A outer s H E) (defBody st_p_without_block) (rdS (jsND K cl xc xfT R) B M_p_without_block (WD E) f_p_without_block) := by
  have hu := hr.units
  have hv := hv_of hr
  have hK : K = (jsND K cl xc xfT R).K := rfl
  have nd := sc_p_without_block.nd
  have tk := takesE (P := P) (w := w) (K := K) (mg := mg) (base := base) (N := N_p_without_block) (qual := "without_block") (scope := defScope st_p_without_block) (f := f) (cd := cdv) (A := A) (outer := outer) (s := s) (H := H) (E := E)
  have ow := ownE (P := P) (w := w) (K := K) (mg := mg) (base := base) (N := N_p_without_block) (qual := "without_block") (scope := defScope st_p_without_block) (f := f) (cd := cdv) (A := A) (outer := outer) (s := s) (H := H) (E := E)
  exact (zC (s_ret (kTupC hK (hB _ h_tuple) (aC (toClean (lcF [("other", 2)] nd (blk_of N_p_without_block (defScope st_p_without_block) rfl rfl (by decide +kernel)) (iSq hK (xV 0)) (fun _ _ _ _ _ => (gN 2 nd)) (fun _ _ _ _ _ => (ts1 (tCp (kNe hK hu) s_ne (toMixC (xV 2)) (toMixC (xV 1))))) (fun _ _ _ _ _ => (xV 2)))) aN)))
    s_nil)
theorem ok_p_without_block {P : Program} {w : World} {K : PySem.W.Frag} {mg : Str → Option Value} {base : Heap} {cl xc : Nat → Addr} {R f : Addr} {fd : FuncData} (hB : Blt mg) (hC : Cst mg)   (F : L2.Fun K "without_block" "without_block" st_p_without_block f fd) (hm : mg "without_block" = some (.ref f)) (hb : Binds K fd ["left", "block"] []) :
    Cal (jsND K cl xc xfT R) P w mg base 1 "without_block" 2 F_p_without_block :=
  ⟨⟨f, fd, ["left", "block"], fnG_D F sc_p_without_block rfl (by decide) (fun cdv A outer s H E B hr hgd => b_p_without_block hB hC    hr hgd), hm, F.kp, hb⟩, runF_len⟩


/-! ### Orders.order_at -/
def f_Orders_order_at : Sv Nat := (sSeq (sPr3 2 3 4 (eAt 0 "blocks" (eVar 0)) (eUn negD (eC (.int 2))) (eLst aNil))
    (sSeq (sWhile (tBl (eOp neD (eVar 2) (eTup aNil))) (sSeq (sSet 5 (eUn negD (eC (.int 1))))
    (sSeq (sFor (iSeq (eMt1 0 "choices" F_Orders_choices (eVar 0) (aCons (eVar 2) (aCons (eVar 3) aNil)))) (gNm 6) (sSeq (sSet 7 (eMt1 0 "ways" F_Orders_ways (eVar 0) (aCons (eCall F_p_without_block (aCons (eVar 2) (aCons (eVar 6) aNil))) (aCons (eVar 6) aNil))))
    (sSeq (sIf (tAndD (tBl (eOp ltD (eVar 5) (eC (.int 0)))) (tBl (eOp ltD (eVar 1) (eVar 7)))) (sSeq (sSet 5 (eVar 6))
    sNil) (sSeq (sIf (tBl (eOp ltD (eVar 5) (eC (.int 0)))) (sSeq (sAug subI 1 (eVar 7))
    sNil) sNil)
    sNil))
    sNil)))
    (sSeq (sApp 4 (eVar 5))
    (sSeq (sPr2 2 3 (eCall F_p_without_block (aCons (eVar 2) (aCons (eVar 5) aNil))) (eVar 5))
    sNil)))))
    (sSeq (sRet (eB tupleB (aCons (eVar 4) aNil)))
    sNil)))
instance : MoS f_Orders_order_at := by unfold f_Orders_order_at; infer_instance
def F_Orders_order_at : Fv Nat := runF 8 2 f_Orders_order_at
instance : MoF F_Orders_order_at := inferInstanceAs (MoF (runF 8 2 f_Orders_order_at))
def M_Orders_order_at : Nat → Bool := fun i => Nat.beq i 4
abbrev N_Orders_order_at : List Str := ["self", "index", "left", "last", "found", "chosen", "block", "many"]
abbrev st_Orders_order_at : Stmt := (clsBody (top 9)).getD 4 (.Pass ⟨0, 0, 0, 0⟩)
theorem sc_Orders_order_at : FnScope N_Orders_order_at ["self", "index"] (defScope st_Orders_order_at) := ⟨rfl, rfl, rfl, by decide +kernel, rfl, by decide +kernel, by decide +kernel⟩
theorem b_Orders_order_at {P : Program} {w : World} {K : PySem.W.Frag} {mg : Str → Option Value} {base : Heap} {cl xc : Nat → Addr} {R : Addr} {f : Addr} {cdv : Value} {A : Around} {outer : List Env} {s : Shared} {H : Hp} {E : XK} {B : Bs} (hB : Blt mg) (hC : Cst mg) (T_0 : ClsT (jsND K cl xc xfT R) 0 at_Orders) (C_Orders_choices : Mth (jsND K cl xc xfT R) P w mg base 1 0 "choices" 3 F_Orders_choices) (C_Orders_ways : Mth (jsND K cl xc xfT R) P w mg base 2 0 "ways" 3 F_Orders_ways) (C_p_without_block : Cal (jsND K cl xc xfT R) P w mg base 1 "without_block" 2 F_p_without_block)
    (hr : Room 2 (A.deeper (envOfC "Orders.order_at" (defScope st_Orders_order_at) s.heap.objs.size f cdv))) (hgd : (A.deeper (envOfC "Orders.order_at" (defScope st_Orders_order_at) s.heap.objs.size f cdv)).guards = some []) :
    PSs (cxE P w K mg base N_Orders_order_at "Orders.order_at" (defScope st_Orders_order_at) f cdv A outer s H E) (defBody st_Orders_order_at) (rdS (jsND K cl xc xfT R) B M_Orders_order_at (WD E) f_Orders_order_at) := by
  have hu := hr.units
  have hv := hv_of hr
  have hK : K = (jsND K cl xc xfT R).K := rfl
  have nd := sc_Orders_order_at.nd
  have tk := takesE (P := P) (w := w) (K := K) (mg := mg) (base := base) (N := N_Orders_order_at) (qual := "Orders.order_at") (scope := defScope st_Orders_order_at) (f := f) (cd := cdv) (A := A) (outer := outer) (s := s) (H := H) (E := E)
  have ow := ownE (P := P) (w := w) (K := K) (mg := mg) (base := base) (N := N_Orders_order_at) (qual := "Orders.order_at") (scope := defScope st_Orders_order_at) (f := f) (cd := cdv) (A := A) (outer := outer) (s := s) (H := H) (E := E)
  exact (zC (zPr3 2 3 4 nd (clC (atC hK T_0 ha_Orders_blocks (xV 0))) (clC (uNeg (toMixC cI))) (clO (lsF aN)))
    (zC (zWhile (tCp (kNe hK hu) s_ne (toMixC (xV 2)) (toMixC (tpC aN))) (zC (zSet 5 nd (uNeg (toMixC cI)))
    (zC (zFor (iSq hK (mthC hK tk T_0 C_Orders_choices (hr.mono (by decide)) hgd (xV 0) (aC (xV 2) (aC (xV 3) aN)))) (gN 6 nd) (zC (zSet 7 nd (mthC hK tk T_0 C_Orders_ways (hr.mono (by decide)) hgd (xV 0) (aC (callC hK tk C_p_without_block (hr.mono (by decide)) hgd (aC (xV 2) (aC (xV 6) aN))) (aC (xV 6) aN))))
    (zC (s_if (PW.pt (t_and (tCp (op_lt) s_cmp (toMixC (xV 5)) (toMixC cI)) (t_and1 (tCp (op_lt) s_cmp (toMixC (xV 1)) (toMixC (xV 7)))))) (zC (zSet 5 nd (xV 6))
    s_nil) (zC (s_if (tCp (op_lt) s_cmp (toMixC (xV 5)) (toMixC cI)) (zC (zSub 1 nd (toMixC (xV 7)))
    s_nil) s_nil)
    s_nil))
    s_nil)) (hp := ow))
    (zC (zApp 4 (xV 5))
    (zC (zPr2 2 3 nd (clC (callC hK tk C_p_without_block (hr.mono (by decide)) hgd (aC (xV 2) (aC (xV 5) aN)))) (clC (xV 5)))
    s_nil)))) (hp := ow))
    (zC (s_ret (tuO (i := 4) (hB _ h_tuple)))
    s_nil)))
theorem ok_Orders_order_at {P : Program} {w : World} {K : PySem.W.Frag} {mg : Str → Option Value} {base : Heap} {cl xc : Nat → Addr} {R : Addr} (hB : Blt mg) (hC : Cst mg) (T_0 : ClsT (jsND K cl xc xfT R) 0 at_Orders) (C_Orders_choices : Mth (jsND K cl xc xfT R) P w mg base 1 0 "choices" 3 F_Orders_choices) (C_Orders_ways : Mth (jsND K cl xc xfT R) P w mg base 2 0 "ways" 3 F_Orders_ways) (C_p_without_block : Cal (jsND K cl xc xfT R) P w mg base 1 "without_block" 2 F_p_without_block) (h : MF K cl 0 "order_at" "Orders.order_at" st_Orders_order_at ["self", "index"]) : Mth (jsND K cl xc xfT R) P w mg base 3 0 "order_at" 2 F_Orders_order_at := by
  obtain ⟨f, fd, F, hm, hb⟩ := h.ex
  exact ⟨⟨f, fd, _, hm, fnG_D F sc_Orders_order_at rfl (by decide) (fun cdv A outer s H E B hr hgd => b_Orders_order_at hB hC T_0 C_Orders_choices C_Orders_ways C_p_without_block hr hgd), hb⟩, runF_len⟩


/-! ### exchange_at -/
def f_p_exchange_at : Sv Nat := (sSeq (sSet 4 (eMak 0 F_Orders___init__ (aCons (eVar 1) (aCons (eVar 3) aNil))))
    (sSeq (sSet 5 (eMt1 0 "count" F_Orders_count (eVar 4) aNil))
    (sSeq (sIf (tNotD (tOf (eCall F_p_is_whole (aCons (eVar 2) (aCons (eC (.int 0)) (aCons (eOp subD (eOp mulD (eCall F_p_binomial (aCons (eOp subD (eVar 0) (eC (.int 1))) (aCons (eOp subD (eVar 1) (eC (.int 1))) aNil))) (eVar 5)) (eC (.int 1))) aNil)))))) (sSeq (sRaise 1 (eVar 2))
    sNil) sNil)
    (sSeq (sRet (eTup (aCons (eCall F_p_lengths_at (aCons (eVar 0) (aCons (eVar 1) (aCons (eOp fdivD (eVar 2) (eVar 5)) aNil)))) (aCons (eMt1 0 "order_at" F_Orders_order_at (eVar 4) (aCons (eOp modD (eVar 2) (eVar 5)) aNil)) aNil))))
    sNil))))
instance : MoS f_p_exchange_at := by unfold f_p_exchange_at; infer_instance
def F_p_exchange_at : Fv Nat := runF 6 4 f_p_exchange_at
instance : MoF F_p_exchange_at := inferInstanceAs (MoF (runF 6 4 f_p_exchange_at))
def M_p_exchange_at : Nat → Bool := fun i => false
abbrev N_p_exchange_at : List Str := ["n", "blocks", "index", "standard", "orders", "many"]
abbrev st_p_exchange_at : Stmt := top 14
theorem sc_p_exchange_at : FnScope N_p_exchange_at ["n", "blocks", "index", "standard"] (defScope st_p_exchange_at) := ⟨rfl, rfl, rfl, by decide +kernel, rfl, by decide +kernel, by decide +kernel⟩
theorem b_p_exchange_at {P : Program} {w : World} {K : PySem.W.Frag} {mg : Str → Option Value} {base : Heap} {cl xc : Nat → Addr} {R f : Addr} {cdv : Value} {A : Around} {outer : List Env} {s : Shared} {H : Hp} {E : XK} {B : Bs} (hB : Blt mg) (hC : Cst mg) (T_0 : ClsT (jsND K cl xc xfT R) 0 at_Orders) (C_Orders : Mkr (jsND K cl xc xfT R) P w mg base 1 0 "Orders" 3 F_Orders___init__) (C_Orders_count : Mth (jsND K cl xc xfT R) P w mg base 3 0 "count" 1 F_Orders_count) (C_Orders_order_at : Mth (jsND K cl xc xfT R) P w mg base 3 0 "order_at" 2 F_Orders_order_at) (C_p_binomial : Cal (jsND K cl xc xfT R) P w mg base 1 "binomial" 2 F_p_binomial) (C_p_is_whole : Cal (jsND K cl xc xfT R) P w mg base 1 "is_whole" 3 F_p_is_whole) (C_p_lengths_at : Cal (jsND K cl xc xfT R) P w mg base 11 "lengths_at" 3 F_p_lengths_at) (X_NoIndex : XMk (jsND K cl xc xfT R) P w mg base 1 "NoIndex") 
    (hr : Room 11 (A.deeper (envOfC "exchange_at" (defScope st_p_exchange_at) s.heap.objs.size f cdv))) (hgd : (A.deeper (envOfC "exchange_at" (defScope st_p_exchange_at) s.heap.objs.size f cdv)).guards = some []) :
    PSs (cxE P w K mg base N_p_exchange_at "exchange_at" (defScope st_p_exchange_at) f cdv A outer s H E) (defBody st_p_exchange_at) (rdS (jsND K cl xc xfT R) B M_p_exchange_at (WD E) f_p_exchange_at) := by
  have hu := hr.units
  have hv := hv_of hr
  have hK : K = (jsND K cl xc xfT R).K := rfl
  have nd := sc_p_exchange_at.nd
  have tk := takesE (P := P) (w := w) (K := K) (mg := mg) (base := base) (N := N_p_exchange_at) (qual := "exchange_at") (scope := defScope st_p_exchange_at) (f := f) (cd := cdv) (A := A) (outer := outer) (s := s) (H := H) (E := E)
  have ow := ownE (P := P) (w := w) (K := K) (mg := mg) (base := base) (N := N_p_exchange_at) (qual := "exchange_at") (scope := defScope st_p_exchange_at) (f := f) (cd := cdv) (A := A) (outer := outer) (s := s) (H := H) (E := E)
  exact (zC (zSet 4 nd (makC hK tk C_Orders (hr.mono (by decide)) hgd (aC (xV 1) (aC (xV 3) aN))))
    (zC (zSet 5 nd (mthC0 hK tk T_0 C_Orders_count (hr.mono (by decide)) hgd (xV 4)))
    (zC (s_if (t_not (tTr hK (toMixC (callC hK tk C_p_is_whole (hr.mono (by decide)) hgd (aC (xV 2) (aC cI (aC (bSub (toMixC (bMulC (callC hK tk C_p_binomial (hr.mono (by decide)) hgd (aC (bSub (toMixC (xV 0)) (toMixC cI)) (aC (bSub (toMixC (xV 1)) (toMixC cI)) aN))) (xV 5))) (toMixC cI)) aN))))))) (zC (zRaise 1 hK tk X_NoIndex (hr.mono (by decide)) (xV 2))
    s_nil) s_nil)
    (zC (s_ret (tpC (aC (callC hK tk C_p_lengths_at (hr.mono (by decide)) hgd (aC (xV 0) (aC (xV 1) (aC (bDiv (toMixC (xV 2)) (toMixC (xV 5))) aN)))) (aC (mthC hK tk T_0 C_Orders_order_at (hr.mono (by decide)) hgd (xV 4) (aC (bMod (toMixC (xV 2)) (toMixC (xV 5))) aN)) aN))))
    s_nil))))
theorem ok_p_exchange_at {P : Program} {w : World} {K : PySem.W.Frag} {mg : Str → Option Value} {base : Heap} {cl xc : Nat → Addr} {R f : Addr} {fd : FuncData} (hB : Blt mg) (hC : Cst mg) (T_0 : ClsT (jsND K cl xc xfT R) 0 at_Orders) (C_Orders : Mkr (jsND K cl xc xfT R) P w mg base 1 0 "Orders" 3 F_Orders___init__) (C_Orders_count : Mth (jsND K cl xc xfT R) P w mg base 3 0 "count" 1 F_Orders_count) (C_Orders_order_at : Mth (jsND K cl xc xfT R) P w mg base 3 0 "order_at" 2 F_Orders_order_at) (C_p_binomial : Cal (jsND K cl xc xfT R) P w mg base 1 "binomial" 2 F_p_binomial) (C_p_is_whole : Cal (jsND K cl xc xfT R) P w mg base 1 "is_whole" 3 F_p_is_whole) (C_p_lengths_at : Cal (jsND K cl xc xfT R) P w mg base 11 "lengths_at" 3 F_p_lengths_at) (X_NoIndex : XMk (jsND K cl xc xfT R) P w mg base 1 "NoIndex") (F : L2.Fun K "exchange_at" "exchange_at" st_p_exchange_at f fd) (hm : mg "exchange_at" = some (.ref f)) (hb : ∃ ds, Vals [dvV (.bl false)] ds ∧ Binds K fd ["n", "blocks", "index", "standard"] ds) (hb2 : ∀ (s : Shared) (us ws : List Value), K.In s.heap → us.length = 3 → ws.length = 1 → BindsTo s fd ⟨us, [("standard" : Str)].zip ws⟩ ((["n", "blocks", "index", "standard"] : List Str).zip (us ++ ws))) :
    CalK (jsND K cl xc xfT R) P w mg base 12 "exchange_at" 3 "standard" (.bl false) F_p_exchange_at := by
  obtain ⟨ds, h3, h4⟩ := hb
  exact ⟨⟨f, fd, ["n", "blocks", "index", "standard"], ds, fnG_D F sc_p_exchange_at rfl (by decide) (fun cdv A outer s H E B hr hgd => b_p_exchange_at hB hC T_0 C_Orders C_Orders_count C_Orders_order_at C_p_binomial C_p_is_whole C_p_lengths_at X_NoIndex hr hgd), hm, F.kp, h3, h4, rfl, hb2⟩, runF_len, rfl⟩


/-! ### _law_sizes -/
def f_sizes (φ : Fv Nat) : Sv Nat := (sSeq (sIf (tBl (eOp eqD (eVar 1) (eC (.int 1)))) (sSeq (sRet (eLst (aCons (eTup (aCons (eVar 0) aNil)) aNil)))
    sNil) sNil)
    (sSeq (sSet 2 (eLst aNil))
    (sSeq (sFor (iRng2 (eC (.int 1)) (eOp addD (eOp subD (eVar 0) (eVar 1)) (eC (.int 2)))) (gNm 3) (sSeq (sExt 2 (eComp [4] (iSeq (eCall φ (aCons (eOp subD (eVar 0) (eVar 3)) (aCons (eOp subD (eVar 1) (eC (.int 1))) aNil)))) (gNm 4) tYesD (eOp addD (eTup (aCons (eVar 3) aNil)) (eVar 4))))
    sNil))
    (sSeq (sRet (eVar 2))
    sNil))))
instance {φ : Fv Nat} [MoF φ] : MoS (f_sizes φ) := by unfold f_sizes; infer_instance
def F_sizes : Fv Nat := recF 5 2 f_sizes 8
instance : MoF F_sizes := mo_rec (fun _ _ => inferInstance) 8
def M_sizes : Nat → Bool := fun i => Nat.beq i 2
abbrev N_sizes : List Str := ["_law_n", "_law_blocks", "_law_found", "_law_first", "_law_rest"]
abbrev st_sizes : Stmt := top 23
theorem sc_sizes : FnScope N_sizes ["_law_n", "_law_blocks"] (defScope st_sizes) := ⟨rfl, rfl, rfl, by decide +kernel, rfl, by decide +kernel, by decide +kernel⟩
theorem b_sizes {P : Program} {w : World} {K : PySem.W.Frag} {mg : Str → Option Value} {base : Heap} {cl xc : Nat → Addr} {R f : Addr} {φ : Fv Nat} {m : Nat} {cdv : Value} {A : Around} {outer : List Env} {s : Shared} {H : Hp} {E : XK} {B : Bs} (hB : Blt mg) (hC : Cst mg)   (C_sizes : Cal (jsND K cl xc xfT R) P w mg base (0 + 1 + m) "_law_sizes" 2 φ)
    (hr : Room (0 + 1 + m) (A.deeper (envOfC "_law_sizes" (defScope st_sizes) s.heap.objs.size f cdv))) (hgd : (A.deeper (envOfC "_law_sizes" (defScope st_sizes) s.heap.objs.size f cdv)).guards = some []) :
    PSs (cxE P w K mg base N_sizes "_law_sizes" (defScope st_sizes) f cdv A outer s H E) (defBody st_sizes) (rdS (jsND K cl xc xfT R) B M_sizes (WD E) (f_sizes φ)) := by
  have hu := hr.units
  have hv := hv_of hr
  have hK : K = (jsND K cl xc xfT R).K := rfl
  have nd := sc_sizes.nd
  have tk := takesE (P := P) (w := w) (K := K) (mg := mg) (base := base) (N := N_sizes) (qual := "_law_sizes") (scope := defScope st_sizes) (f := f) (cd := cdv) (A := A) (outer := outer) (s := s) (H := H) (E := E)
  have ow := ownE (P := P) (w := w) (K := K) (mg := mg) (base := base) (N := N_sizes) (qual := "_law_sizes") (scope := defScope st_sizes) (f := f) (cd := cdv) (A := A) (outer := outer) (s := s) (H := H) (E := E)
  exact (zC (s_if (tCp (kEq hK hu) s_eq (toMixC (xV 1)) (toMixC cI)) (zC (s_ret (lsF (aC (tpC (aC (xV 0) aN)) aN)))
    s_nil) s_nil)
    (zC (zSetO 2 nd (lsF aN))
    (zC (zFor (iR2 (hB _ h_range) (toMixC cI) (toMixC (bAddC hK (bSub (toMixC (xV 0)) (toMixC (xV 1))) cI))) (gN 3 nd) (zC (zExt 2 (toClean (lcF [("_law_rest", 4)] nd (blk_of N_sizes (defScope st_sizes) rfl rfl (by decide +kernel)) (iSq hK (callC hK tk C_sizes (hr.mono (by omega)) hgd (aC (bSub (toMixC (xV 0)) (toMixC (xV 3))) (aC (bSub (toMixC (xV 1)) (toMixC cI)) aN)))) (fun _ _ _ _ _ => (gN 4 nd)) (fun _ _ _ _ _ => ts0) (fun _ _ _ _ _ => (bAddC hK (tpC (aC (xV 3) aN)) (xV 4))))))
    s_nil) (hp := ow))
    (zC (s_ret (xO 2))
    s_nil))))
theorem ok_sizes {P : Program} {w : World} {K : PySem.W.Frag} {mg : Str → Option Value} {base : Heap} {cl xc : Nat → Addr} {R f : Addr} {fd : FuncData} (hB : Blt mg) (hC : Cst mg)   (F : L2.Fun K "_law_sizes" "_law_sizes" st_sizes f fd) (hm : mg "_law_sizes" = some (.ref f)) (hb : Binds K fd ["_law_n", "_law_blocks"] []) :
    Cal (jsND K cl xc xfT R) P w mg base 9 "_law_sizes" 2 F_sizes :=
  cal_rec (S := (jsND K cl xc xfT R)) (lev := 0) (g := f_sizes) F sc_sizes rfl (by decide) hm hb (fun m φ C cdv A outer s H E B hr hgd => b_sizes hB hC    C hr hgd) 8


/-! ### _law_orders -/
def f_orders : Sv Nat := (sSeq (sSet 1 (eLst (aCons (eTup aNil) aNil)))
    (sSeq (sFor (iRng1 (eVar 0)) (gNm 2) (sSeq (sSet 3 (eLst aNil))
    (sSeq (sForJ (jSeq 1) (gNm 4) (sSeq (sExt 3 (eComp [5] (iRng1 (eVar 0)) (gNm 5) (tBl (eOp ninD (eVar 5) (eVar 4))) (eOp addD (eVar 4) (eTup (aCons (eVar 5) aNil)))))
    sNil))
    (sSeq (sMove 1 3)
    sNil))))
    (sSeq (sRet (eVar 1))
    sNil)))
instance : MoS f_orders := by unfold f_orders; infer_instance
def F_orders : Fv Nat := runF 6 1 f_orders
instance : MoF F_orders := inferInstanceAs (MoF (runF 6 1 f_orders))
def M_orders : Nat → Bool := fun i => Nat.beq i 1 || Nat.beq i 3
abbrev N_orders : List Str := ["_law_many", "_law_rows", "_law_turn", "_law_longer", "_law_row", "_law_block"]
abbrev st_orders : Stmt := top 22
theorem sc_orders : FnScope N_orders ["_law_many"] (defScope st_orders) := ⟨rfl, rfl, rfl, by decide +kernel, rfl, by decide +kernel, by decide +kernel⟩
theorem b_orders {P : Program} {w : World} {K : PySem.W.Frag} {mg : Str → Option Value} {base : Heap} {cl xc : Nat → Addr} {R f : Addr} {cdv : Value} {A : Around} {outer : List Env} {s : Shared} {H : Hp} {E : XK} {B : Bs} (hB : Blt mg) (hC : Cst mg)   
    (hr : Room 0 (A.deeper (envOfC "_law_orders" (defScope st_orders) s.heap.objs.size f cdv))) (hgd : (A.deeper (envOfC "_law_orders" (defScope st_orders) s.heap.objs.size f cdv)).guards = some []) :
    PSs (cxE P w K mg base N_orders "_law_orders" (defScope st_orders) f cdv A outer s H E) (defBody st_orders) (rdS (jsND K cl xc xfT R) B M_orders (WD E) f_orders) := by
  have hu := hr.units
  have hv := hv_of hr
  have hK : K = (jsND K cl xc xfT R).K := rfl
  have nd := sc_orders.nd
  have tk := takesE (P := P) (w := w) (K := K) (mg := mg) (base := base) (N := N_orders) (qual := "_law_orders") (scope := defScope st_orders) (f := f) (cd := cdv) (A := A) (outer := outer) (s := s) (H := H) (E := E)
  have ow := ownE (P := P) (w := w) (K := K) (mg := mg) (base := base) (N := N_orders) (qual := "_law_orders") (scope := defScope st_orders) (f := f) (cd := cdv) (A := A) (outer := outer) (s := s) (H := H) (E := E)
  exact (zC (zSetO 1 nd (lsF (aC (tpC aN) aN)))
    (zC (zFor (iR1 (hB _ h_range) (toMixC (xV 0))) (gN 2 nd) (zC (zSetO 3 nd (lsF aN))
    (zC (zForJ (jSq 1 hK) (gN 4 nd) (zC (zExt 3 (toClean (lcF [("_law_block", 5)] nd (blk_of N_orders (defScope st_orders) rfl rfl (by decide +kernel)) (iR1 (hB _ h_range) (toMixC (xV 0))) (fun _ _ _ _ _ => (gN 5 nd)) (fun _ _ _ _ _ => (ts1 (tIn (kNotIn hK hv) s_notIn (toMixC (xV 5)) (toMixC (xV 4))))) (fun _ _ _ _ _ => (bAddC hK (xV 4) (tpC (aC (xV 5) aN)))))))
    s_nil) (hp := ow))
    (zC (zMove 1 3 nd)
    s_nil))) (hp := ow))
    (zC (s_ret (xO 1))
    s_nil)))
theorem ok_orders {P : Program} {w : World} {K : PySem.W.Frag} {mg : Str → Option Value} {base : Heap} {cl xc : Nat → Addr} {R f : Addr} {fd : FuncData} (hB : Blt mg) (hC : Cst mg)   (F : L2.Fun K "_law_orders" "_law_orders" st_orders f fd) (hm : mg "_law_orders" = some (.ref f)) (hb : Binds K fd ["_law_many"] []) :
    Cal (jsND K cl xc xfT R) P w mg base 1 "_law_orders" 1 F_orders :=
  ⟨⟨f, fd, ["_law_many"], fnG_D F sc_orders rfl (by decide) (fun cdv A outer s H E B hr hgd => b_orders hB hC    hr hgd), hm, F.kp, hb⟩, runF_len⟩


/-! ### _law_is_standard -/
def f_is_standard : Sv Nat := (sSeq (sRet (eOp eqLD (eComp [1] (iRng2 (eC (.int 1)) (eB lenB (aCons (eVar 0) aNil))) (gNm 1) (tBl (eOp eqD (eOp subD (eOp idxD (eVar 0) (eVar 1)) (eOp idxD (eVar 0) (eOp subD (eVar 1) (eC (.int 1))))) (eC (.int 1)))) (eVar 1)) (eLst aNil)))
    sNil)
instance : MoS f_is_standard := by unfold f_is_standard; infer_instance
def F_is_standard : Fv Nat := runF 2 1 f_is_standard
instance : MoF F_is_standard := inferInstanceAs (MoF (runF 2 1 f_is_standard))
def M_is_standard : Nat → Bool := fun i => false
abbrev N_is_standard : List Str := ["_law_order", "_law_k"]
abbrev st_is_standard : Stmt := top 24
theorem sc_is_standard : FnScope N_is_standard ["_law_order"] (defScope st_is_standard) := ⟨rfl, rfl, rfl, by decide +kernel, rfl, by decide +kernel, by decide +kernel⟩
theorem b_is_standard {P : Program} {w : World} {K : PySem.W.Frag} {mg : Str → Option Value} {base : Heap} {cl xc : Nat → Addr} {R f : Addr} {cdv : Value} {A : Around} {outer : List Env} {s : Shared} {H : Hp} {E : XK} {B : Bs} (hB : Blt mg) (hC : Cst mg)   
    (hr : Room 0 (A.deeper (envOfC "_law_is_standard" (defScope st_is_standard) s.heap.objs.size f cdv))) (hgd : (A.deeper (envOfC "_law_is_standard" (defScope st_is_standard) s.heap.objs.size f cdv)).guards = some []) :
    PSs (cxE P w K mg base N_is_standard "_law_is_standard" (defScope st_is_standard) f cdv A outer s H E) (defBody st_is_standard) (rdS (jsND K cl xc xfT R) B M_is_standard (WD E) f_is_standard) := by
  have hu := hr.units
  have hv := hv_of hr
  have hK : K = (jsND K cl xc xfT R).K := rfl
  have nd := sc_is_standard.nd
  have tk := takesE (P := P) (w := w) (K := K) (mg := mg) (base := base) (N := N_is_standard) (qual := "_law_is_standard") (scope := defScope st_is_standard) (f := f) (cd := cdv) (A := A) (outer := outer) (s := s) (H := H) (E := E)
  have ow := ownE (P := P) (w := w) (K := K) (mg := mg) (base := base) (N := N_is_standard) (qual := "_law_is_standard") (scope := defScope st_is_standard) (f := f) (cd := cdv) (A := A) (outer := outer) (s := s) (H := H) (E := E)
  exact (zC (s_ret (eCp (kEqL hK hu) s_eqL (toMixF (lcF [("_law_k", 1)] nd (blk_of N_is_standard (defScope st_is_standard) rfl rfl (by decide +kernel)) (iR2 (hB _ h_range) (toMixC cI) (toMixC (kLen hK (hB _ h_len) (aX (toMixC (xV 0)) aN)))) (fun _ _ _ _ _ => (gN 1 nd)) (fun _ _ _ _ _ => (ts1 (tCp (kEq hK hu) s_eq (toMixC (bSub (toMixC (ixC hK (xV 0) (xV 1))) (toMixC (ixC hK (xV 0) (bSub (toMixC (xV 1)) (toMixC cI)))))) (toMixC cI)))) (fun _ _ _ _ _ => (xV 1)))) (toMixF (lsF aN))))
    s_nil)
theorem ok_is_standard {P : Program} {w : World} {K : PySem.W.Frag} {mg : Str → Option Value} {base : Heap} {cl xc : Nat → Addr} {R f : Addr} {fd : FuncData} (hB : Blt mg) (hC : Cst mg)   (F : L2.Fun K "_law_is_standard" "_law_is_standard" st_is_standard f fd) (hm : mg "_law_is_standard" = some (.ref f)) (hb : Binds K fd ["_law_order"] []) :
    Cal (jsND K cl xc xfT R) P w mg base 1 "_law_is_standard" 1 F_is_standard :=
  ⟨⟨f, fd, ["_law_order"], fnG_D F sc_is_standard rfl (by decide) (fun cdv A outer s H E B hr hgd => b_is_standard hB hC    hr hgd), hm, F.kp, hb⟩, runF_len⟩


/-! ### _law_all -/
def f_all : Sv Nat := (sSeq (sSet 3 (eComp [6] (iSeq (eCall F_orders (aCons (eVar 1) aNil))) (gNm 6) (tOrD (tNotD (tOf (eVar 2))) (tOf (eCall F_is_standard (aCons (eVar 6) aNil)))) (eVar 6)))
    (sSeq (sSet 4 (eLst aNil))
    (sSeq (sFor (iSeq (eCall F_sizes (aCons (eVar 0) (aCons (eVar 1) aNil)))) (gNm 5) (sSeq (sExt 4 (eComp [6] (iSeq (eVar 3)) (gNm 6) tYesD (eTup (aCons (eVar 5) (aCons (eVar 6) aNil)))))
    sNil))
    (sSeq (sRet (eVar 4))
    sNil))))
instance : MoS f_all := by unfold f_all; infer_instance
def F_all : Fv Nat := runF 7 3 f_all
instance : MoF F_all := inferInstanceAs (MoF (runF 7 3 f_all))
def M_all : Nat → Bool := fun i => Nat.beq i 4
abbrev N_all : List Str := ["_law_n", "_law_blocks", "_law_only", "_law_orders_here", "_law_found", "_law_sizes_here", "_law_order"]
abbrev st_all : Stmt := top 25
theorem sc_all : FnScope N_all ["_law_n", "_law_blocks", "_law_only"] (defScope st_all) := ⟨rfl, rfl, rfl, by decide +kernel, rfl, by decide +kernel, by decide +kernel⟩
theorem b_all {P : Program} {w : World} {K : PySem.W.Frag} {mg : Str → Option Value} {base : Heap} {cl xc : Nat → Addr} {R f : Addr} {cdv : Value} {A : Around} {outer : List Env} {s : Shared} {H : Hp} {E : XK} {B : Bs} (hB : Blt mg) (hC : Cst mg)  (C_is_standard : Cal (jsND K cl xc xfT R) P w mg base 1 "_law_is_standard" 1 F_is_standard) (C_orders : Cal (jsND K cl xc xfT R) P w mg base 1 "_law_orders" 1 F_orders) (C_sizes : Cal (jsND K cl xc xfT R) P w mg base 9 "_law_sizes" 2 F_sizes) 
    (hr : Room 9 (A.deeper (envOfC "_law_all" (defScope st_all) s.heap.objs.size f cdv))) (hgd : (A.deeper (envOfC "_law_all" (defScope st_all) s.heap.objs.size f cdv)).guards = some []) :
    PSs (cxE P w K mg base N_all "_law_all" (defScope st_all) f cdv A outer s H E) (defBody st_all) (rdS (jsND K cl xc xfT R) B M_all (WD E) f_all) := by
  have hu := hr.units
  have hv := hv_of hr
  have hK : K = (jsND K cl xc xfT R).K := rfl
  have nd := sc_all.nd
  have tk := takesE (P := P) (w := w) (K := K) (mg := mg) (base := base) (N := N_all) (qual := "_law_all") (scope := defScope st_all) (f := f) (cd := cdv) (A := A) (outer := outer) (s := s) (H := H) (E := E)
  have ow := ownE (P := P) (w := w) (K := K) (mg := mg) (base := base) (N := N_all) (qual := "_law_all") (scope := defScope st_all) (f := f) (cd := cdv) (A := A) (outer := outer) (s := s) (H := H) (E := E)
  exact (zC (setLc 3 [("_law_order", 6)] nd (blk_of N_all (defScope st_all) rfl rfl (by decide +kernel)) (iSq hK (callC hK tk C_orders (hr.mono (by decide)) hgd (aC (xV 1) aN))) (fun _ _ _ _ _ => (gN 6 nd)) (fun _ _ _ _ _ => (ts1 (PW.pt (t_or (t_not (tTr hK (toMixC (xV 2)))) (t_or1 (tTr hK (toMixC (callC hK takesW0 C_is_standard (hr.mono (by decide)) hgd (aC (xV 6) aN))))))))) (fun _ _ _ _ _ => (xV 6)))
    (zC (zSetO 4 nd (lsF aN))
    (zC (zFor (iSq hK (callC hK tk C_sizes (hr.mono (by decide)) hgd (aC (xV 0) (aC (xV 1) aN)))) (gN 5 nd) (zC (zExt 4 (toClean (lcF [("_law_order", 6)] nd (blk_of N_all (defScope st_all) rfl rfl (by decide +kernel)) (iSq hK (xV 3)) (fun _ _ _ _ _ => (gN 6 nd)) (fun _ _ _ _ _ => ts0) (fun _ _ _ _ _ => (tpC (aC (xV 5) (aC (xV 6) aN)))))))
    s_nil) (hp := ow))
    (zC (s_ret (xO 4))
    s_nil))))
theorem ok_all {P : Program} {w : World} {K : PySem.W.Frag} {mg : Str → Option Value} {base : Heap} {cl xc : Nat → Addr} {R f : Addr} {fd : FuncData} (hB : Blt mg) (hC : Cst mg)  (C_is_standard : Cal (jsND K cl xc xfT R) P w mg base 1 "_law_is_standard" 1 F_is_standard) (C_orders : Cal (jsND K cl xc xfT R) P w mg base 1 "_law_orders" 1 F_orders) (C_sizes : Cal (jsND K cl xc xfT R) P w mg base 9 "_law_sizes" 2 F_sizes) (F : L2.Fun K "_law_all" "_law_all" st_all f fd) (hm : mg "_law_all" = some (.ref f)) (hb : Binds K fd ["_law_n", "_law_blocks", "_law_only"] []) :
    Cal (jsND K cl xc xfT R) P w mg base 10 "_law_all" 3 F_all :=
  ⟨⟨f, fd, ["_law_n", "_law_blocks", "_law_only"], fnG_D F sc_all rfl (by decide) (fun cdv A outer s H E B hr hgd => b_all hB hC  C_is_standard C_orders C_sizes  hr hgd), hm, F.kp, hb⟩, runF_len⟩


/-! ### Orders.index_of -/
def f_Orders_index_of : Sv Nat := (sSeq (sAsg (gTp (gsCons (gNm 2) (gsCons (gNm 3) (gsCons (gNm 4) gsNil)))) (eTup (aCons (eAt 0 "blocks" (eVar 0)) (aCons (eUn negD (eC (.int 2))) (aCons (eC (.int 0)) aNil)))))
    (sSeq (sFor (iSeq (eVar 1)) (gNm 5) (sSeq (sSet 6 (eComp [7] (iSeq (eMt1 0 "choices" F_Orders_choices (eVar 0) (aCons (eVar 2) (aCons (eVar 3) aNil)))) (gNm 7) (tBl (eOp ltD (eVar 7) (eVar 5))) (eVar 7)))
    (sSeq (sAug addI 4 (eB sumB (aCons (eComp [7] (iSeq (eVar 6)) (gNm 7) tYesD (eMt1 0 "ways" F_Orders_ways (eVar 0) (aCons (eCall F_p_without_block (aCons (eVar 2) (aCons (eVar 7) aNil))) (aCons (eVar 7) aNil)))) aNil)))
    (sSeq (sAsg (gTp (gsCons (gNm 2) (gsCons (gNm 3) gsNil))) (eTup (aCons (eCall F_p_without_block (aCons (eVar 2) (aCons (eVar 5) aNil))) (aCons (eVar 5) aNil))))
    sNil))))
    (sSeq (sRet (eVar 4))
    sNil)))
instance : MoS f_Orders_index_of := by unfold f_Orders_index_of; infer_instance
def F_Orders_index_of : Fv Nat := runF 8 2 f_Orders_index_of
instance : MoF F_Orders_index_of := inferInstanceAs (MoF (runF 8 2 f_Orders_index_of))
def M_Orders_index_of : Nat → Bool := fun i => false
abbrev N_Orders_index_of : List Str := ["self", "order", "left", "last", "found", "own", "smaller", "block"]
abbrev st_Orders_index_of : Stmt := (clsBody (top 9)).getD 5 (.Pass ⟨0, 0, 0, 0⟩)
theorem sc_Orders_index_of : FnScope N_Orders_index_of ["self", "order"] (defScope st_Orders_index_of) := ⟨rfl, rfl, rfl, by decide +kernel, rfl, by decide +kernel, by decide +kernel⟩
theorem b_Orders_index_of {P : Program} {w : World} {K : PySem.W.Frag} {mg : Str → Option Value} {base : Heap} {cl xc : Nat → Addr} {R : Addr} {f : Addr} {cdv : Value} {A : Around} {outer : List Env} {s : Shared} {H : Hp} {E : XK} {B : Bs} (hB : Blt mg) (hC : Cst mg) (T_0 : ClsT (jsND K cl xc xfT R) 0 at_Orders) (C_Orders_choices : Mth (jsND K cl xc xfT R) P w mg base 1 0 "choices" 3 F_Orders_choices) (C_Orders_ways : Mth (jsND K cl xc xfT R) P w mg base 2 0 "ways" 3 F_Orders_ways) (C_p_without_block : Cal (jsND K cl xc xfT R) P w mg base 1 "without_block" 2 F_p_without_block)
    (hr : Room 2 (A.deeper (envOfC "Orders.index_of" (defScope st_Orders_index_of) s.heap.objs.size f cdv))) (hgd : (A.deeper (envOfC "Orders.index_of" (defScope st_Orders_index_of) s.heap.objs.size f cdv)).guards = some []) :
    PSs (cxE P w K mg base N_Orders_index_of "Orders.index_of" (defScope st_Orders_index_of) f cdv A outer s H E) (defBody st_Orders_index_of) (rdS (jsND K cl xc xfT R) B M_Orders_index_of (WD E) f_Orders_index_of) := by
  have hu := hr.units
  have hv := hv_of hr
  have hK : K = (jsND K cl xc xfT R).K := rfl
  have nd := sc_Orders_index_of.nd
  have tk := takesE (P := P) (w := w) (K := K) (mg := mg) (base := base) (N := N_Orders_index_of) (qual := "Orders.index_of") (scope := defScope st_Orders_index_of) (f := f) (cd := cdv) (A := A) (outer := outer) (s := s) (H := H) (E := E)
  have ow := ownE (P := P) (w := w) (K := K) (mg := mg) (base := base) (N := N_Orders_index_of) (qual := "Orders.index_of") (scope := defScope st_Orders_index_of) (f := f) (cd := cdv) (A := A) (outer := outer) (s := s) (H := H) (E := E)
  exact (zC (zAsg (tpC (aC (atC hK T_0 ha_Orders_blocks (xV 0)) (aC (uNeg (toMixC cI)) (aC cI aN)))) (gT hK (gsC_len (gsC_len (gsC_len gsN_len))) (gsC (gN 2 nd) (gsC (gN 3 nd) (gsC (gN 4 nd) gs0)))))
    (zC (zFor (iSq hK (xV 1)) (gN 5 nd) (zC (setLc 6 [("block", 7)] nd (blk_of N_Orders_index_of (defScope st_Orders_index_of) rfl rfl (by decide +kernel)) (iSq hK (mthC hK tk T_0 C_Orders_choices (hr.mono (by decide)) hgd (xV 0) (aC (xV 2) (aC (xV 3) aN)))) (fun _ _ _ _ _ => (gN 7 nd)) (fun _ _ _ _ _ => (ts1 (tCp (op_lt) s_cmp (toMixC (xV 7)) (toMixC (xV 5))))) (fun _ _ _ _ _ => (xV 7)))
    (zC (zAdd 4 nd (toMixC (kSum hK (hB _ h_sum) (aX (toMixF (lcF [("block", 7)] nd (blk_of N_Orders_index_of (defScope st_Orders_index_of) rfl rfl (by decide +kernel)) (iSq hK (xV 6)) (fun _ _ _ _ _ => (gN 7 nd)) (fun _ _ _ _ _ => ts0) (fun _ _ _ _ _ => (mthC hK takesW0 T_0 C_Orders_ways (hr.mono (by decide)) hgd (xV 0) (aC (callC hK takesW0 C_p_without_block (hr.mono (by decide)) hgd (aC (xV 2) (aC (xV 7) aN))) (aC (xV 7) aN)))))) aN))))
    (zC (zAsg (tpC (aC (callC hK tk C_p_without_block (hr.mono (by decide)) hgd (aC (xV 2) (aC (xV 5) aN))) (aC (xV 5) aN))) (gT hK (gsC_len (gsC_len gsN_len)) (gsC (gN 2 nd) (gsC (gN 3 nd) gs0))))
    s_nil))) (hp := ow))
    (zC (s_ret (xV 4))
    s_nil)))
theorem ok_Orders_index_of {P : Program} {w : World} {K : PySem.W.Frag} {mg : Str → Option Value} {base : Heap} {cl xc : Nat → Addr} {R : Addr} (hB : Blt mg) (hC : Cst mg) (T_0 : ClsT (jsND K cl xc xfT R) 0 at_Orders) (C_Orders_choices : Mth (jsND K cl xc xfT R) P w mg base 1 0 "choices" 3 F_Orders_choices) (C_Orders_ways : Mth (jsND K cl xc xfT R) P w mg base 2 0 "ways" 3 F_Orders_ways) (C_p_without_block : Cal (jsND K cl xc xfT R) P w mg base 1 "without_block" 2 F_p_without_block) (h : MF K cl 0 "index_of" "Orders.index_of" st_Orders_index_of ["self", "order"]) : Mth (jsND K cl xc xfT R) P w mg base 3 0 "index_of" 2 F_Orders_index_of := by
  obtain ⟨f, fd, F, hm, hb⟩ := h.ex
  exact ⟨⟨f, fd, _, hm, fnG_D F sc_Orders_index_of rfl (by decide) (fun cdv A outer s H E B hr hgd => b_Orders_index_of hB hC T_0 C_Orders_choices C_Orders_ways C_p_without_block hr hgd), hb⟩, runF_len⟩


/-! ### kept_blocks -/
def f_p_kept_blocks : Sv Nat := (sSeq (sSet 1 (eOp idxD (eVar 0) (eC (.int 1))))
    (sSeq (sRet (eB tupleB (aCons (eB sortD (aCons (eComp [2, 3] (iZip (eVar 1) (eSl sliceD (eVar 1) (pSome (eC (.int 1))) pNone)) (gTp (gsCons (gNm 2) (gsCons (gNm 3) gsNil))) (tBl (eOp eqD (eVar 3) (eOp addD (eVar 2) (eC (.int 1))))) (eVar 2)) aNil)) aNil)))
    sNil))
instance : MoS f_p_kept_blocks := by unfold f_p_kept_blocks; infer_instance
def F_p_kept_blocks : Fv Nat := runF 4 1 f_p_kept_blocks
instance : MoF F_p_kept_blocks := inferInstanceAs (MoF (runF 4 1 f_p_kept_blocks))
def M_p_kept_blocks : Nat → Bool := fun i => false
abbrev N_p_kept_blocks : List Str := ["exchange", "order", "one", "other"]
abbrev st_p_kept_blocks : Stmt := top 6
theorem sc_p_kept_blocks : FnScope N_p_kept_blocks ["exchange"] (defScope st_p_kept_blocks) := ⟨rfl, rfl, rfl, by decide +kernel, rfl, by decide +kernel, by decide +kernel⟩
theorem b_p_kept_blocks {P : Program} {w : World} {K : PySem.W.Frag} {mg : Str → Option Value} {base : Heap} {cl xc : Nat → Addr} {R f : Addr} {cdv : Value} {A : Around} {outer : List Env} {s : Shared} {H : Hp} {E : XK} {B : Bs} (hB : Blt mg) (hC : Cst mg)   
    (hr : Room 0 (A.deeper (envOfC "kept_blocks" (defScope st_p_kept_blocks) s.heap.objs.size f cdv))) (hgd : (A.deeper (envOfC "kept_blocks" (defScope st_p_kept_blocks) s.heap.objs.size f cdv)).guards = some []) :
    PSs (cxE P w K mg base N_p_kept_blocks "kept_blocks" (defScope st_p_kept_blocks) f cdv A outer s H E) (defBody st_p_kept_blocks) (rdS (jsND K cl xc xfT R) B M_p_kept_blocks (WD E) f_p_kept_blocks) := by
  have hu := hr.units
  have hv := hv_of hr
  have hK : K = (jsND K cl xc xfT R).K := rfl
  have nd := sc_p_kept_blocks.nd
  have tk := takesE (P := P) (w := w) (K := K) (mg := mg) (base := base) (N := N_p_kept_blocks) (qual := "kept_blocks") (scope := defScope st_p_kept_blocks) (f := f) (cd := cdv) (A := A) (outer := outer) (s := s) (H := H) (E := E)
  have ow := ownE (P := P) (w := w) (K := K) (mg := mg) (base := base) (N := N_p_kept_blocks) (qual := "kept_blocks") (scope := defScope st_p_kept_blocks) (f := f) (cd := cdv) (A := A) (outer := outer) (s := s) (H := H) (E := E)
  exact (zC (zSet 1 nd (ixC hK (xV 0) cI))
    (zC (s_ret (kTupC hK (hB _ h_tuple) (aC (toClean (kSortD hK (hB _ h_sorted) (aX (toMixF (lcF [("one", 2), ("other", 3)] nd (blk_of N_p_kept_blocks (defScope st_p_kept_blocks) rfl rfl (by decide +kernel)) (iZp hK (hB _ h_zip) (xV 1) (slC hK (xV 1) (p_some (toMixC cI)) p_none)) (fun _ _ _ _ _ => (gT hK (gsC_len (gsC_len gsN_len)) (gsC (gN 2 nd) (gsC (gN 3 nd) gs0)))) (fun _ _ _ _ _ => (ts1 (tCp (kEq hK hu) s_eq (toMixC (xV 3)) (toMixC (bAddC hK (xV 2) cI))))) (fun _ _ _ _ _ => (xV 2)))) aN))) aN)))
    s_nil))
theorem ok_p_kept_blocks {P : Program} {w : World} {K : PySem.W.Frag} {mg : Str → Option Value} {base : Heap} {cl xc : Nat → Addr} {R f : Addr} {fd : FuncData} (hB : Blt mg) (hC : Cst mg)   (F : L2.Fun K "kept_blocks" "kept_blocks" st_p_kept_blocks f fd) (hm : mg "kept_blocks" = some (.ref f)) (hb : Binds K fd ["exchange"] []) :
    Cal (jsND K cl xc xfT R) P w mg base 1 "kept_blocks" 1 F_p_kept_blocks :=
  ⟨⟨f, fd, ["exchange"], fnG_D F sc_p_kept_blocks rfl (by decide) (fun cdv A outer s H E B hr hgd => b_p_kept_blocks hB hC    hr hgd), hm, F.kp, hb⟩, runF_len⟩


/-! ### lengths_index -/
def f_p_lengths_index (φ : Fv Nat) : Sv Nat := (sSeq (sIf (tBl (eOp eqD (eB lenB (aCons (eVar 0) aNil)) (eC (.int 1)))) (sSeq (sRet (eC (.int 0)))
    sNil) sNil)
    (sSeq (sRet (eOp addD (eCall F_p_lighter_lengths (aCons (eB sumB (aCons (eVar 0) aNil)) (aCons (eB lenB (aCons (eVar 0) aNil)) (aCons (eOp idxD (eVar 0) (eC (.int 0))) aNil)))) (eCall φ (aCons (eSl sliceD (eVar 0) (pSome (eC (.int 1))) pNone) aNil))))
    sNil))
instance {φ : Fv Nat} [MoF φ] : MoS (f_p_lengths_index φ) := by unfold f_p_lengths_index; infer_instance
def F_p_lengths_index : Fv Nat := recF 1 1 f_p_lengths_index 8
instance : MoF F_p_lengths_index := mo_rec (fun _ _ => inferInstance) 8
def M_p_lengths_index : Nat → Bool := fun i => false
abbrev N_p_lengths_index : List Str := ["lengths"]
abbrev st_p_lengths_index : Stmt := top 13
theorem sc_p_lengths_index : FnScope N_p_lengths_index ["lengths"] (defScope st_p_lengths_index) := ⟨rfl, rfl, rfl, by decide +kernel, rfl, by decide +kernel, by decide +kernel⟩
theorem b_p_lengths_index {P : Program} {w : World} {K : PySem.W.Frag} {mg : Str → Option Value} {base : Heap} {cl xc : Nat → Addr} {R f : Addr} {φ : Fv Nat} {m : Nat} {cdv : Value} {A : Around} {outer : List Env} {s : Shared} {H : Hp} {E : XK} {B : Bs} (hB : Blt mg) (hC : Cst mg)  (C_p_lighter_lengths : Cal (jsND K cl xc xfT R) P w mg base 2 "lighter_lengths" 3 F_p_lighter_lengths) (C_p_lengths_index : Cal (jsND K cl xc xfT R) P w mg base (2 + 1 + m) "lengths_index" 1 φ)
    (hr : Room (2 + 1 + m) (A.deeper (envOfC "lengths_index" (defScope st_p_lengths_index) s.heap.objs.size f cdv))) (hgd : (A.deeper (envOfC "lengths_index" (defScope st_p_lengths_index) s.heap.objs.size f cdv)).guards = some []) :
    PSs (cxE P w K mg base N_p_lengths_index "lengths_index" (defScope st_p_lengths_index) f cdv A outer s H E) (defBody st_p_lengths_index) (rdS (jsND K cl xc xfT R) B M_p_lengths_index (WD E) (f_p_lengths_index φ)) := by
  have hu := hr.units
  have hv := hv_of hr
  have hK : K = (jsND K cl xc xfT R).K := rfl
  have nd := sc_p_lengths_index.nd
  have tk := takesE (P := P) (w := w) (K := K) (mg := mg) (base := base) (N := N_p_lengths_index) (qual := "lengths_index") (scope := defScope st_p_lengths_index) (f := f) (cd := cdv) (A := A) (outer := outer) (s := s) (H := H) (E := E)
  have ow := ownE (P := P) (w := w) (K := K) (mg := mg) (base := base) (N := N_p_lengths_index) (qual := "lengths_index") (scope := defScope st_p_lengths_index) (f := f) (cd := cdv) (A := A) (outer := outer) (s := s) (H := H) (E := E)
  exact (zC (s_if (tCp (kEq hK hu) s_eq (toMixC (kLen hK (hB _ h_len) (aX (toMixC (xV 0)) aN))) (toMixC cI)) (zC (s_ret cI)
    s_nil) s_nil)
    (zC (s_ret (bAddC hK (callC hK tk C_p_lighter_lengths (hr.mono (by omega)) hgd (aC (kSum hK (hB _ h_sum) (aX (toMixC (xV 0)) aN)) (aC (kLen hK (hB _ h_len) (aX (toMixC (xV 0)) aN)) (aC (ixC hK (xV 0) cI) aN)))) (callC hK tk C_p_lengths_index (hr.mono (by omega)) hgd (aC (slC hK (xV 0) (p_some (toMixC cI)) p_none) aN))))
    s_nil))
theorem ok_p_lengths_index {P : Program} {w : World} {K : PySem.W.Frag} {mg : Str → Option Value} {base : Heap} {cl xc : Nat → Addr} {R f : Addr} {fd : FuncData} (hB : Blt mg) (hC : Cst mg)  (C_p_lighter_lengths : Cal (jsND K cl xc xfT R) P w mg base 2 "lighter_lengths" 3 F_p_lighter_lengths) (F : L2.Fun K "lengths_index" "lengths_index" st_p_lengths_index f fd) (hm : mg "lengths_index" = some (.ref f)) (hb : Binds K fd ["lengths"] []) :
    Cal (jsND K cl xc xfT R) P w mg base 11 "lengths_index" 1 F_p_lengths_index :=
  cal_rec (S := (jsND K cl xc xfT R)) (lev := 2) (g := f_p_lengths_index) F sc_p_lengths_index rfl (by decide) hm hb (fun m φ C cdv A outer s H E B hr hgd => b_p_lengths_index hB hC  C_p_lighter_lengths  C hr hgd) 8


/-! ### exchange_index -/
def f_p_exchange_index : Sv Nat := (sSeq (sIf (tAndD (tOf (eVar 1)) (tBl (eOp neD (eCall F_p_kept_blocks (aCons (eVar 0) aNil)) (eTup aNil)))) (sSeq (sRaise0 2)
    sNil) sNil)
    (sSeq (sSet 2 (eMak 0 F_Orders___init__ (aCons (eB lenB (aCons (eOp idxD (eVar 0) (eC (.int 0))) aNil)) (aCons (eVar 1) aNil))))
    (sSeq (sRet (eOp addD (eOp mulD (eCall F_p_lengths_index (aCons (eOp idxD (eVar 0) (eC (.int 0))) aNil)) (eMt1 0 "count" F_Orders_count (eVar 2) aNil)) (eMt1 0 "index_of" F_Orders_index_of (eVar 2) (aCons (eOp idxD (eVar 0) (eC (.int 1))) aNil))))
    sNil)))
instance : MoS f_p_exchange_index := by unfold f_p_exchange_index; infer_instance
def F_p_exchange_index : Fv Nat := runF 3 2 f_p_exchange_index
instance : MoF F_p_exchange_index := inferInstanceAs (MoF (runF 3 2 f_p_exchange_index))
def M_p_exchange_index : Nat → Bool := fun i => false
abbrev N_p_exchange_index : List Str := ["exchange", "standard", "orders"]
abbrev st_p_exchange_index : Stmt := top 15
theorem sc_p_exchange_index : FnScope N_p_exchange_index ["exchange", "standard"] (defScope st_p_exchange_index) := ⟨rfl, rfl, rfl, by decide +kernel, rfl, by decide +kernel, by decide +kernel⟩
theorem b_p_exchange_index {P : Program} {w : World} {K : PySem.W.Frag} {mg : Str → Option Value} {base : Heap} {cl xc : Nat → Addr} {R f : Addr} {cdv : Value} {A : Around} {outer : List Env} {s : Shared} {H : Hp} {E : XK} {B : Bs} (hB : Blt mg) (hC : Cst mg) (T_0 : ClsT (jsND K cl xc xfT R) 0 at_Orders) (C_Orders : Mkr (jsND K cl xc xfT R) P w mg base 1 0 "Orders" 3 F_Orders___init__) (C_Orders_count : Mth (jsND K cl xc xfT R) P w mg base 3 0 "count" 1 F_Orders_count) (C_Orders_index_of : Mth (jsND K cl xc xfT R) P w mg base 3 0 "index_of" 2 F_Orders_index_of) (C_p_kept_blocks : Cal (jsND K cl xc xfT R) P w mg base 1 "kept_blocks" 1 F_p_kept_blocks) (C_p_lengths_index : Cal (jsND K cl xc xfT R) P w mg base 11 "lengths_index" 1 F_p_lengths_index) (X_NotStandard : XM0 (jsND K cl xc xfT R) mg 2 "NotStandard") 
    (hr : Room 11 (A.deeper (envOfC "exchange_index" (defScope st_p_exchange_index) s.heap.objs.size f cdv))) (hgd : (A.deeper (envOfC "exchange_index" (defScope st_p_exchange_index) s.heap.objs.size f cdv)).guards = some []) :
    PSs (cxE P w K mg base N_p_exchange_index "exchange_index" (defScope st_p_exchange_index) f cdv A outer s H E) (defBody st_p_exchange_index) (rdS (jsND K cl xc xfT R) B M_p_exchange_index (WD E) f_p_exchange_index) := by
  have hu := hr.units
  have hv := hv_of hr
  have hK : K = (jsND K cl xc xfT R).K := rfl
  have nd := sc_p_exchange_index.nd
  have tk := takesE (P := P) (w := w) (K := K) (mg := mg) (base := base) (N := N_p_exchange_index) (qual := "exchange_index") (scope := defScope st_p_exchange_index) (f := f) (cd := cdv) (A := A) (outer := outer) (s := s) (H := H) (E := E)
  have ow := ownE (P := P) (w := w) (K := K) (mg := mg) (base := base) (N := N_p_exchange_index) (qual := "exchange_index") (scope := defScope st_p_exchange_index) (f := f) (cd := cdv) (A := A) (outer := outer) (s := s) (H := H) (E := E)
  exact (zC (s_if (PW.pt (t_and (tTr hK (toMixC (xV 1))) (t_and1 (tCp (kNe hK hu) s_ne (toMixC (callC hK tk C_p_kept_blocks (hr.mono (by decide)) hgd (aC (xV 0) aN))) (toMixC (tpC aN)))))) (zC (zRaise0 2 hK tk X_NotStandard)
    s_nil) s_nil)
    (zC (zSet 2 nd (makC hK tk C_Orders (hr.mono (by decide)) hgd (aC (kLen hK (hB _ h_len) (aX (toMixC (ixC hK (xV 0) cI)) aN)) (aC (xV 1) aN))))
    (zC (s_ret (bAddC hK (bMulC (callC hK tk C_p_lengths_index (hr.mono (by decide)) hgd (aC (ixC hK (xV 0) cI) aN)) (mthC0 hK tk T_0 C_Orders_count (hr.mono (by decide)) hgd (xV 2))) (mthC hK tk T_0 C_Orders_index_of (hr.mono (by decide)) hgd (xV 2) (aC (ixC hK (xV 0) cI) aN))))
    s_nil)))
theorem ok_p_exchange_index {P : Program} {w : World} {K : PySem.W.Frag} {mg : Str → Option Value} {base : Heap} {cl xc : Nat → Addr} {R f : Addr} {fd : FuncData} (hB : Blt mg) (hC : Cst mg) (T_0 : ClsT (jsND K cl xc xfT R) 0 at_Orders) (C_Orders : Mkr (jsND K cl xc xfT R) P w mg base 1 0 "Orders" 3 F_Orders___init__) (C_Orders_count : Mth (jsND K cl xc xfT R) P w mg base 3 0 "count" 1 F_Orders_count) (C_Orders_index_of : Mth (jsND K cl xc xfT R) P w mg base 3 0 "index_of" 2 F_Orders_index_of) (C_p_kept_blocks : Cal (jsND K cl xc xfT R) P w mg base 1 "kept_blocks" 1 F_p_kept_blocks) (C_p_lengths_index : Cal (jsND K cl xc xfT R) P w mg base 11 "lengths_index" 1 F_p_lengths_index) (X_NotStandard : XM0 (jsND K cl xc xfT R) mg 2 "NotStandard") (F : L2.Fun K "exchange_index" "exchange_index" st_p_exchange_index f fd) (hm : mg "exchange_index" = some (.ref f)) (hb : ∃ ds, Vals [dvV (.bl false)] ds ∧ Binds K fd ["exchange", "standard"] ds) (hb2 : ∀ (s : Shared) (us ws : List Value), K.In s.heap → us.length = 1 → ws.length = 1 → BindsTo s fd ⟨us, [("standard" : Str)].zip ws⟩ ((["exchange", "standard"] : List Str).zip (us ++ ws))) :
    CalK (jsND K cl xc xfT R) P w mg base 12 "exchange_index" 1 "standard" (.bl false) F_p_exchange_index := by
  obtain ⟨ds, h3, h4⟩ := hb
  exact ⟨⟨f, fd, ["exchange", "standard"], ds, fnG_D F sc_p_exchange_index rfl (by decide) (fun cdv A outer s H E B hr hgd => b_p_exchange_index hB hC T_0 C_Orders C_Orders_count C_Orders_index_of C_p_kept_blocks C_p_lengths_index X_NotStandard hr hgd), hm, F.kp, h3, h4, rfl, hb2⟩, runF_len, rfl⟩


/-! ### walk_lengths -/
def y_p_walk_lengths (φ : Yv Nat) : Yv Nat := (ySeq (yIf (tBl (eOp eqD (eVar 1) (eC (.int 1)))) (ySeq (yYl (eTup (aCons (eVar 0) aNil)))
    yNil) (ySeq (yFor (iRng2 (eC (.int 1)) (eOp addD (eOp subD (eVar 0) (eVar 1)) (eC (.int 2)))) (gNm 2) (ySeq (yForG 3 φ 4 (aCons (eOp subD (eVar 0) (eVar 2)) (aCons (eOp subD (eVar 1) (eC (.int 1))) aNil)) (ySeq (yYl (eTup (aCons (eVar 2) (aStar (eVar 3) aNil))))
    yNil))
    yNil))
    yNil))
    yNil)
instance {φ : Yv Nat} [MoY φ] : MoY (y_p_walk_lengths φ) := by unfold y_p_walk_lengths; infer_instance
def Y_p_walk_lengths : Yv Nat := recY y_p_walk_lengths 8
instance : MoY Y_p_walk_lengths := mo_recY (fun _ _ => inferInstance) 8
abbrev N_p_walk_lengths : List Str := ["n", "blocks", "first", "rest"]
abbrev st_p_walk_lengths : Stmt := top 16
theorem sc_p_walk_lengths : GScope N_p_walk_lengths ["n", "blocks"] (defScope st_p_walk_lengths) := ⟨rfl, rfl, rfl, by decide +kernel, rfl, by decide +kernel, by decide +kernel⟩
theorem b_p_walk_lengths {P : Program} {w : World} {K : PySem.W.Frag} {mg : Str → Option Value} {base : Heap} {cl xc : Nat → Addr} {R f : Addr} {φ : Yv Nat} {m : Nat} (hB : Blt mg) (hC : Cst mg)   (C_p_walk_lengths : CalY (jsND K cl xc xfT R) P w mg base (0 + 1 + 3 * m) "walk_lengths" 2 4 φ) : YBody P w (jsND K cl xc xfT R) mg base N_p_walk_lengths "walk_lengths" st_p_walk_lengths f (0 + 3 * m + 3) (y_p_walk_lengths φ) := by
  intro cdv A outer L pn gn good hr hgd
  have hu := hr.units
  have hv := hv_of hr
  have hK : K = (jsND K cl xc xfT R).K := rfl
  have nd := sc_p_walk_lengths.nd
  exact (ys_cons (ys_if (fun s0 H0 E B => (tCp (kEq hK hu) s_eq (toMixC (xV 1)) (toMixC cI))) (ys_cons (ys_yl good sc_p_walk_lengths.co (fun s0 H0 E B => (tpC (aC (xV 0) aN))))
    ys_nil) (ys_cons (ys_for good (fun s0 H0 E B => (iR2 (hB _ h_range) (toMixC cI) (toMixC (bAddC hK (bSub (toMixC (xV 0)) (toMixC (xV 1))) cI)))) (fun s0 H0 E B => (gN 2 nd)) (ys_cons (ys_forG good hK (hr.mono (by omega)) hgd nd (i := 3) rfl rfl (fun s0 H0 E B => (gCal hK C_p_walk_lengths (hr.mono (by omega)) (aC (bSub (toMixC (xV 0)) (toMixC (xV 2))) (aC (bSub (toMixC (xV 1)) (toMixC cI)) aN)))) (ys_cons (ys_yl good sc_p_walk_lengths.co (fun s0 H0 E B => (tpC (aC (xV 2) (a_star (k := true) hK (xV 3) aN)))))
    ys_nil))
    ys_nil))
    ys_nil))
    ys_nil)
theorem ok_p_walk_lengths {P : Program} {w : World} {K : PySem.W.Frag} {mg : Str → Option Value} {base : Heap} {cl xc : Nat → Addr} {R f : Addr} {fd : FuncData} (hB : Blt mg) (hC : Cst mg)   (F : L2.Fun K "walk_lengths" "walk_lengths" st_p_walk_lengths f fd) (hm : mg "walk_lengths" = some (.ref f)) (hb : Binds K fd ["n", "blocks"] []) :
    CalY (jsND K cl xc xfT R) P w mg base 25 "walk_lengths" 2 4 Y_p_walk_lengths :=
  cal_recY (S := (jsND K cl xc xfT R)) (lev := 0) (g := y_p_walk_lengths) F sc_p_walk_lengths (by decide +kernel) (fun _ => rfl) hm hb (fun m φ C => b_p_walk_lengths hB hC    C) 8


/-! ### walk_orders -/
def y_p_walk_orders (φ : Yv Nat) : Yv Nat := (ySeq (yIf (tBl (eOp eqTD (eVar 0) (eTup aNil))) (ySeq (yYl (eTup aNil))
    yNil) yNil)
    (ySeq (yFor (iSeq (eVar 0)) (gNm 3) (ySeq (yIf (tOrD (tNotD (tOf (eVar 2))) (tBl (eOp neD (eVar 3) (eOp addD (eVar 1) (eC (.int 1)))))) (ySeq (yForG 4 φ 5 (aCons (eCall F_p_without_block (aCons (eVar 0) (aCons (eVar 3) aNil))) (aCons (eVar 3) (aCons (eVar 2) aNil))) (ySeq (yYl (eTup (aCons (eVar 3) (aStar (eVar 4) aNil))))
    yNil))
    yNil) yNil)
    yNil))
    yNil))
instance {φ : Yv Nat} [MoY φ] : MoY (y_p_walk_orders φ) := by unfold y_p_walk_orders; infer_instance
def Y_p_walk_orders : Yv Nat := recY y_p_walk_orders 8
instance : MoY Y_p_walk_orders := mo_recY (fun _ _ => inferInstance) 8
abbrev N_p_walk_orders : List Str := ["left", "last", "standard", "block", "rest"]
abbrev st_p_walk_orders : Stmt := top 17
theorem sc_p_walk_orders : GScope N_p_walk_orders ["left", "last", "standard"] (defScope st_p_walk_orders) := ⟨rfl, rfl, rfl, by decide +kernel, rfl, by decide +kernel, by decide +kernel⟩
theorem b_p_walk_orders {P : Program} {w : World} {K : PySem.W.Frag} {mg : Str → Option Value} {base : Heap} {cl xc : Nat → Addr} {R f : Addr} {φ : Yv Nat} {m : Nat} (hB : Blt mg) (hC : Cst mg)  (C_p_without_block : Cal (jsND K cl xc xfT R) P w mg base 1 "without_block" 2 F_p_without_block) (C_p_walk_orders : CalY (jsND K cl xc xfT R) P w mg base (1 + 1 + 3 * m) "walk_orders" 3 5 φ) : YBody P w (jsND K cl xc xfT R) mg base N_p_walk_orders "walk_orders" st_p_walk_orders f (1 + 3 * m + 3) (y_p_walk_orders φ) := by
  intro cdv A outer L pn gn good hr hgd
  have hu := hr.units
  have hv := hv_of hr
  have hK : K = (jsND K cl xc xfT R).K := rfl
  have nd := sc_p_walk_orders.nd
  exact (ys_cons (ys_if (fun s0 H0 E B => (tCp (kEqT hK hu) s_eqT (toMixC (xV 0)) (toMixC (tpC aN)))) (ys_cons (ys_yl good sc_p_walk_orders.co (fun s0 H0 E B => (tpC aN)))
    ys_nil) ys_nil)
    (ys_cons (ys_for good (fun s0 H0 E B => (iSq hK (xV 0))) (fun s0 H0 E B => (gN 3 nd)) (ys_cons (ys_if (fun s0 H0 E B => (PW.pt (t_or (t_not (tTr hK (toMixC (xV 2)))) (t_or1 (tCp (kNe hK hu) s_ne (toMixC (xV 3)) (toMixC (bAddC hK (xV 1) cI))))))) (ys_cons (ys_forG good hK (hr.mono (by omega)) hgd nd (i := 4) rfl rfl (fun s0 H0 E B => (gCal hK C_p_walk_orders (hr.mono (by omega)) (aC (callC hK takesG C_p_without_block (hr.mono (by omega)) hgd (aC (xV 0) (aC (xV 3) aN))) (aC (xV 3) (aC (xV 2) aN))))) (ys_cons (ys_yl good sc_p_walk_orders.co (fun s0 H0 E B => (tpC (aC (xV 3) (a_star (k := true) hK (xV 4) aN)))))
    ys_nil))
    ys_nil) ys_nil)
    ys_nil))
    ys_nil))
theorem ok_p_walk_orders {P : Program} {w : World} {K : PySem.W.Frag} {mg : Str → Option Value} {base : Heap} {cl xc : Nat → Addr} {R f : Addr} {fd : FuncData} (hB : Blt mg) (hC : Cst mg)  (C_p_without_block : Cal (jsND K cl xc xfT R) P w mg base 1 "without_block" 2 F_p_without_block) (F : L2.Fun K "walk_orders" "walk_orders" st_p_walk_orders f fd) (hm : mg "walk_orders" = some (.ref f)) (hb : Binds K fd ["left", "last", "standard"] []) :
    CalY (jsND K cl xc xfT R) P w mg base 26 "walk_orders" 3 5 Y_p_walk_orders :=
  cal_recY (S := (jsND K cl xc xfT R)) (lev := 1) (g := y_p_walk_orders) F sc_p_walk_orders (by decide +kernel) (fun _ => rfl) hm hb (fun m φ C => b_p_walk_orders hB hC  C_p_without_block  C) 8


/-! ### walk_exchanges -/
def y_p_walk_exchanges : Yv Nat := (ySeq (yForG 3 Y_p_walk_lengths 4 (aCons (eVar 0) (aCons (eVar 1) aNil)) (ySeq (yForG 4 Y_p_walk_orders 5 (aCons (eTrg (iRng1 (eVar 1))) (aCons (eUn negD (eC (.int 2))) (aCons (eVar 2) aNil))) (ySeq (yYl (eTup (aCons (eVar 3) (aCons (eVar 4) aNil))))
    yNil))
    yNil))
    yNil)
instance : MoY y_p_walk_exchanges := by unfold y_p_walk_exchanges; infer_instance
abbrev N_p_walk_exchanges : List Str := ["n", "blocks", "standard", "lengths", "order"]
abbrev st_p_walk_exchanges : Stmt := top 18
theorem sc_p_walk_exchanges : GScope N_p_walk_exchanges ["n", "blocks", "standard"] (defScope st_p_walk_exchanges) := ⟨rfl, rfl, rfl, by decide +kernel, rfl, by decide +kernel, by decide +kernel⟩
theorem b_p_walk_exchanges {P : Program} {w : World} {K : PySem.W.Frag} {mg : Str → Option Value} {base : Heap} {cl xc : Nat → Addr} {R f : Addr} (hB : Blt mg) (hC : Cst mg)  (C_p_walk_lengths : CalY (jsND K cl xc xfT R) P w mg base 25 "walk_lengths" 2 4 Y_p_walk_lengths) (C_p_walk_orders : CalY (jsND K cl xc xfT R) P w mg base 26 "walk_orders" 3 5 Y_p_walk_orders) : YBody P w (jsND K cl xc xfT R) mg base N_p_walk_exchanges "walk_exchanges" st_p_walk_exchanges f 28 y_p_walk_exchanges := by
  intro cdv A outer L pn gn good hr hgd
  have hu := hr.units
  have hv := hv_of hr
  have hK : K = (jsND K cl xc xfT R).K := rfl
  have nd := sc_p_walk_exchanges.nd
  exact (ys_cons (ys_forG good hK (hr.mono (by decide)) hgd nd (i := 3) rfl rfl (fun s0 H0 E B => (gCal hK C_p_walk_lengths (hr.mono (by decide)) (aC (xV 0) (aC (xV 1) aN)))) (ys_cons (ys_forG good hK (hr.mono (by decide)) hgd nd (i := 4) rfl rfl (fun s0 H0 E B => (gCal hK C_p_walk_orders (hr.mono (by decide)) (aC (tR1 (hB _ h_tuple) (hB _ h_range) (toMixC (xV 1))) (aC (uNeg (toMixC cI)) (aC (xV 2) aN))))) (ys_cons (ys_yl good sc_p_walk_exchanges.co (fun s0 H0 E B => (tpC (aC (xV 3) (aC (xV 4) aN)))))
    ys_nil))
    ys_nil))
    ys_nil)
theorem ok_p_walk_exchanges {P : Program} {w : World} {K : PySem.W.Frag} {mg : Str → Option Value} {base : Heap} {cl xc : Nat → Addr} {R f : Addr} {fd : FuncData} (hB : Blt mg) (hC : Cst mg)  (C_p_walk_lengths : CalY (jsND K cl xc xfT R) P w mg base 25 "walk_lengths" 2 4 Y_p_walk_lengths) (C_p_walk_orders : CalY (jsND K cl xc xfT R) P w mg base 26 "walk_orders" 3 5 Y_p_walk_orders) (F : L2.Fun K "walk_exchanges" "walk_exchanges" st_p_walk_exchanges f fd) (hm : mg "walk_exchanges" = some (.ref f)) (hb : ∃ ds, Vals [dvV (.bl false)] ds ∧ Binds K fd ["n", "blocks", "standard"] ds) (hb2 : ∀ (s : Shared) (us ws : List Value), K.In s.heap → us.length = 2 → ws.length = 1 → BindsTo s fd ⟨us, [("standard" : Str)].zip ws⟩ ((["n", "blocks", "standard"] : List Str).zip (us ++ ws))) :
    CalYK (jsND K cl xc xfT R) P w mg base 29 "walk_exchanges" 2 "standard" (.bl false) 5 y_p_walk_exchanges :=
  calYK_of (S := (jsND K cl xc xfT R)) (np := 2) F sc_p_walk_exchanges (by decide +kernel) (fun _ => rfl) (b_p_walk_exchanges hB hC  C_p_walk_lengths C_p_walk_orders ) hm hb rfl hb2 rfl


/-! ### _law_small_right -/
def f_small_right : Sv Nat := (sSeq (sSet 3 (eIf (tBl (eOp leD (eVar 1) (eVar 0))) (eCall F_all (aCons (eVar 0) (aCons (eVar 1) (aCons (eVar 2) aNil)))) (eLst aNil)))
    (sSeq (sIf (tBl (eOp neD (eB reprB (aCons (eListG y_p_walk_exchanges 5 (aKw (aCons (eVar 0) (aCons (eVar 1) aNil)) (eVar 2))) aNil)) (eB reprB (aCons (eVar 3) aNil)))) (sSeq (sRet (eC (.bl false)))
    sNil) sNil)
    (sSeq (sFor (iRng3D (eC (.int 0)) (eB lenB (aCons (eVar 3) aNil)) (eOp addD (eC (.int 1)) (eOp fdivD (eB lenB (aCons (eVar 3) aNil)) (eC (.int 40))))) (gNm 4) (sSeq (sIf (tBl (eOp neD (eB reprB (aCons (eCallK F_p_exchange_at (aCons (eVar 0) (aCons (eVar 1) (aCons (eVar 4) aNil))) (eVar 2)) aNil)) (eB reprB (aCons (eOp idxD (eVar 3) (eVar 4)) aNil)))) (sSeq (sRet (eC (.bl false)))
    sNil) sNil)
    (sSeq (sIf (tBl (eOp neD (eB reprB (aCons (eCallK F_p_exchange_index (aCons (eOp idxD (eVar 3) (eVar 4)) aNil) (eVar 2)) aNil)) (eB reprB (aCons (eVar 4) aNil)))) (sSeq (sRet (eC (.bl false)))
    sNil) sNil)
    sNil)))
    (sSeq (sRet (eC (.bl true)))
    sNil))))
instance : MoS f_small_right := by unfold f_small_right; infer_instance
def F_small_right : Fv Nat := runF 6 3 f_small_right
instance : MoF F_small_right := inferInstanceAs (MoF (runF 6 3 f_small_right))
def M_small_right : Nat → Bool := fun i => false
abbrev N_small_right : List Str := ["_law_n", "_law_blocks", "_law_only", "_law_rows", "_law_index", "_law_row"]
abbrev st_small_right : Stmt := top 28
theorem sc_small_right : FnScope N_small_right ["_law_n", "_law_blocks", "_law_only"] (defScope st_small_right) := ⟨rfl, rfl, rfl, by decide +kernel, rfl, by decide +kernel, by decide +kernel⟩
theorem b_small_right {P : Program} {w : World} {K : PySem.W.Frag} {mg : Str → Option Value} {base : Heap} {cl xc : Nat → Addr} {R f : Addr} {cdv : Value} {A : Around} {outer : List Env} {s : Shared} {H : Hp} {E : XK} {B : Bs} (hB : Blt mg) (hC : Cst mg)  (C_all : Cal (jsND K cl xc xfT R) P w mg base 10 "_law_all" 3 F_all) (C_p_exchange_at : CalK (jsND K cl xc xfT R) P w mg base 12 "exchange_at" 3 "standard" (.bl false) F_p_exchange_at) (C_p_exchange_index : CalK (jsND K cl xc xfT R) P w mg base 12 "exchange_index" 1 "standard" (.bl false) F_p_exchange_index) (C_p_walk_exchanges : CalYK (jsND K cl xc xfT R) P w mg base 29 "walk_exchanges" 2 "standard" (.bl false) 5 y_p_walk_exchanges) 
    (hr : Room 31 (A.deeper (envOfC "_law_small_right" (defScope st_small_right) s.heap.objs.size f cdv))) (hgd : (A.deeper (envOfC "_law_small_right" (defScope st_small_right) s.heap.objs.size f cdv)).guards = some []) :
    PSs (cxE P w K mg base N_small_right "_law_small_right" (defScope st_small_right) f cdv A outer s H E) (defBody st_small_right) (rdS (jsND K cl xc xfT R) B M_small_right (WD E) f_small_right) := by
  have hu := hr.units
  have hv := hv_of hr
  have hK : K = (jsND K cl xc xfT R).K := rfl
  have nd := sc_small_right.nd
  have tk := takesE (P := P) (w := w) (K := K) (mg := mg) (base := base) (N := N_small_right) (qual := "_law_small_right") (scope := defScope st_small_right) (f := f) (cd := cdv) (A := A) (outer := outer) (s := s) (H := H) (E := E)
  have ow := ownE (P := P) (w := w) (K := K) (mg := mg) (base := base) (N := N_small_right) (qual := "_law_small_right") (scope := defScope st_small_right) (f := f) (cd := cdv) (A := A) (outer := outer) (s := s) (H := H) (E := E)
  exact (zC (zSet 3 nd (e_if (tCp (op_le) s_cmp (toMixC (xV 1)) (toMixC (xV 0))) (callC hK tk C_all (hr.mono (by decide)) hgd (aC (xV 0) (aC (xV 1) (aC (xV 2) aN)))) (toClean (lsF aN))))
    (zC (s_if (tCp (kNe hK hu) s_ne (toMixC (kRepr hK hgd hu (hB _ h_repr) (aX (toMixF (e_lcG stillE hK rfl rfl rfl (hr.mono (by decide)) hgd (gCalK hK C_p_walk_exchanges (hr.mono (by decide)) (aC (xV 0) (aC (xV 1) aN)) (xV 2)))) aN))) (toMixC (kRepr hK hgd hu (hB _ h_repr) (aX (toMixC (xV 3)) aN)))) (zC (s_ret cB)
    s_nil) s_nil)
    (zC (zFor (i_rng3 rfl (hB _ h_range) (toMixC cI) (toMixC (kLen hK (hB _ h_len) (aX (toMixC (xV 3)) aN))) (toMixC (bAddC hK cI (bDiv (toMixC (kLen hK (hB _ h_len) (aX (toMixC (xV 3)) aN))) (toMixC cI))))) (gN 4 nd) (zC (s_if (tCp (kNe hK hu) s_ne (toMixC (kRepr hK hgd hu (hB _ h_repr) (aX (toMixC (callK hK tk C_p_exchange_at (hr.mono (by decide)) hgd (aC (xV 0) (aC (xV 1) (aC (xV 4) aN))) (xV 2))) aN))) (toMixC (kRepr hK hgd hu (hB _ h_repr) (aX (toMixC (ixC hK (xV 3) (xV 4))) aN)))) (zC (s_ret cB)
    s_nil) s_nil)
    (zC (s_if (tCp (kNe hK hu) s_ne (toMixC (kRepr hK hgd hu (hB _ h_repr) (aX (toMixC (callK hK tk C_p_exchange_index (hr.mono (by decide)) hgd (aC (ixC hK (xV 3) (xV 4)) aN) (xV 2))) aN))) (toMixC (kRepr hK hgd hu (hB _ h_repr) (aX (toMixC (xV 4)) aN)))) (zC (s_ret cB)
    s_nil) s_nil)
    s_nil)) (hp := ow))
    (zC (s_ret cB)
    s_nil))))
theorem ok_small_right {P : Program} {w : World} {K : PySem.W.Frag} {mg : Str → Option Value} {base : Heap} {cl xc : Nat → Addr} {R f : Addr} {fd : FuncData} (hB : Blt mg) (hC : Cst mg)  (C_all : Cal (jsND K cl xc xfT R) P w mg base 10 "_law_all" 3 F_all) (C_p_exchange_at : CalK (jsND K cl xc xfT R) P w mg base 12 "exchange_at" 3 "standard" (.bl false) F_p_exchange_at) (C_p_exchange_index : CalK (jsND K cl xc xfT R) P w mg base 12 "exchange_index" 1 "standard" (.bl false) F_p_exchange_index) (C_p_walk_exchanges : CalYK (jsND K cl xc xfT R) P w mg base 29 "walk_exchanges" 2 "standard" (.bl false) 5 y_p_walk_exchanges) (F : L2.Fun K "_law_small_right" "_law_small_right" st_small_right f fd) (hm : mg "_law_small_right" = some (.ref f)) (hb : Binds K fd ["_law_n", "_law_blocks", "_law_only"] []) :
    Cal (jsND K cl xc xfT R) P w mg base 32 "_law_small_right" 3 F_small_right :=
  ⟨⟨f, fd, ["_law_n", "_law_blocks", "_law_only"], fnG_D F sc_small_right rfl (by decide) (fun cdv A outer s H E B hr hgd => b_small_right hB hC  C_all C_p_exchange_at C_p_exchange_index C_p_walk_exchanges  hr hgd), hm, F.kp, hb⟩, runF_len⟩


/-! ### _law_choose -/
def f_choose : Sv Nat := (sSeq (sIf (tBl (eOp gtD (eVar 1) (eVar 0))) (sSeq (sRet (eC (.int 0)))
    sNil) sNil)
    (sSeq (sSet 2 (eC (.int 1)))
    (sSeq (sFor (iRng1 (eVar 1)) (gNm 3) (sSeq (sSet 2 (eOp fdivD (eOp mulD (eVar 2) (eOp subD (eVar 0) (eVar 3))) (eOp addD (eVar 3) (eC (.int 1)))))
    sNil))
    (sSeq (sRet (eVar 2))
    sNil))))
instance : MoS f_choose := by unfold f_choose; infer_instance
def F_choose : Fv Nat := runF 4 2 f_choose
instance : MoF F_choose := inferInstanceAs (MoF (runF 4 2 f_choose))
def M_choose : Nat → Bool := fun i => false
abbrev N_choose : List Str := ["_law_total", "_law_some", "_law_found", "_law_k"]
abbrev st_choose : Stmt := top 26
theorem sc_choose : FnScope N_choose ["_law_total", "_law_some"] (defScope st_choose) := ⟨rfl, rfl, rfl, by decide +kernel, rfl, by decide +kernel, by decide +kernel⟩
theorem b_choose {P : Program} {w : World} {K : PySem.W.Frag} {mg : Str → Option Value} {base : Heap} {cl xc : Nat → Addr} {R f : Addr} {cdv : Value} {A : Around} {outer : List Env} {s : Shared} {H : Hp} {E : XK} {B : Bs} (hB : Blt mg) (hC : Cst mg)   
    (hr : Room 0 (A.deeper (envOfC "_law_choose" (defScope st_choose) s.heap.objs.size f cdv))) (hgd : (A.deeper (envOfC "_law_choose" (defScope st_choose) s.heap.objs.size f cdv)).guards = some []) :
    PSs (cxE P w K mg base N_choose "_law_choose" (defScope st_choose) f cdv A outer s H E) (defBody st_choose) (rdS (jsND K cl xc xfT R) B M_choose (WD E) f_choose) := by
  have hu := hr.units
  have hv := hv_of hr
  have hK : K = (jsND K cl xc xfT R).K := rfl
  have nd := sc_choose.nd
  have tk := takesE (P := P) (w := w) (K := K) (mg := mg) (base := base) (N := N_choose) (qual := "_law_choose") (scope := defScope st_choose) (f := f) (cd := cdv) (A := A) (outer := outer) (s := s) (H := H) (E := E)
  have ow := ownE (P := P) (w := w) (K := K) (mg := mg) (base := base) (N := N_choose) (qual := "_law_choose") (scope := defScope st_choose) (f := f) (cd := cdv) (A := A) (outer := outer) (s := s) (H := H) (E := E)
  exact (zC (s_if (tCp (op_gt) s_cmp (toMixC (xV 1)) (toMixC (xV 0))) (zC (s_ret cI)
    s_nil) s_nil)
    (zC (zSet 2 nd cI)
    (zC (zFor (iR1 (hB _ h_range) (toMixC (xV 1))) (gN 3 nd) (zC (zSet 2 nd (bDiv (toMixC (bMulC (xV 2) (bSub (toMixC (xV 0)) (toMixC (xV 3))))) (toMixC (bAddC hK (xV 3) cI))))
    s_nil) (hp := ow))
    (zC (s_ret (xV 2))
    s_nil))))
theorem ok_choose {P : Program} {w : World} {K : PySem.W.Frag} {mg : Str → Option Value} {base : Heap} {cl xc : Nat → Addr} {R f : Addr} {fd : FuncData} (hB : Blt mg) (hC : Cst mg)   (F : L2.Fun K "_law_choose" "_law_choose" st_choose f fd) (hm : mg "_law_choose" = some (.ref f)) (hb : Binds K fd ["_law_total", "_law_some"] []) :
    Cal (jsND K cl xc xfT R) P w mg base 1 "_law_choose" 2 F_choose :=
  ⟨⟨f, fd, ["_law_total", "_law_some"], fnG_D F sc_choose rfl (by decide) (fun cdv A outer s H E B hr hgd => b_choose hB hC    hr hgd), hm, F.kp, hb⟩, runF_len⟩


/-! ### _law_count -/
def f_count : Sv Nat := (sSeq (sSet 3 (eLst (aCons (eC (.int 1)) (aCons (eC (.int 1)) aNil))))
    (sSeq (sFor (iRng2 (eC (.int 2)) (eOp addD (eVar 1) (eC (.int 1)))) (gNm 4) (sSeq (sApp 3 (eOp idxD (eLst (aCons (eOp mulD (eVar 4) (eOp idxD (eVar 3) (eUn negD (eC (.int 1))))) (aCons (eOp addD (eOp mulD (eOp subD (eVar 4) (eC (.int 1))) (eOp idxD (eVar 3) (eUn negD (eC (.int 1))))) (eOp mulD (eOp subD (eVar 4) (eC (.int 2))) (eOp idxD (eVar 3) (eUn negD (eC (.int 2)))))) aNil))) (eB intB (aCons (eVar 2) aNil))))
    sNil))
    (sSeq (sRet (eOp mulD (eCall F_choose (aCons (eOp subD (eVar 0) (eC (.int 1))) (aCons (eOp subD (eVar 1) (eC (.int 1))) aNil))) (eOp idxD (eVar 3) (eVar 1))))
    sNil)))
instance : MoS f_count := by unfold f_count; infer_instance
def F_count : Fv Nat := runF 5 3 f_count
instance : MoF F_count := inferInstanceAs (MoF (runF 5 3 f_count))
def M_count : Nat → Bool := fun i => Nat.beq i 3
abbrev N_count : List Str := ["_law_n", "_law_blocks", "_law_only", "_law_orders_here", "_law_k"]
abbrev st_count : Stmt := top 27
theorem sc_count : FnScope N_count ["_law_n", "_law_blocks", "_law_only"] (defScope st_count) := ⟨rfl, rfl, rfl, by decide +kernel, rfl, by decide +kernel, by decide +kernel⟩
theorem b_count {P : Program} {w : World} {K : PySem.W.Frag} {mg : Str → Option Value} {base : Heap} {cl xc : Nat → Addr} {R f : Addr} {cdv : Value} {A : Around} {outer : List Env} {s : Shared} {H : Hp} {E : XK} {B : Bs} (hB : Blt mg) (hC : Cst mg)  (C_choose : Cal (jsND K cl xc xfT R) P w mg base 1 "_law_choose" 2 F_choose) 
    (hr : Room 1 (A.deeper (envOfC "_law_count" (defScope st_count) s.heap.objs.size f cdv))) (hgd : (A.deeper (envOfC "_law_count" (defScope st_count) s.heap.objs.size f cdv)).guards = some []) :
    PSs (cxE P w K mg base N_count "_law_count" (defScope st_count) f cdv A outer s H E) (defBody st_count) (rdS (jsND K cl xc xfT R) B M_count (WD E) f_count) := by
  have hu := hr.units
  have hv := hv_of hr
  have hK : K = (jsND K cl xc xfT R).K := rfl
  have nd := sc_count.nd
  have tk := takesE (P := P) (w := w) (K := K) (mg := mg) (base := base) (N := N_count) (qual := "_law_count") (scope := defScope st_count) (f := f) (cd := cdv) (A := A) (outer := outer) (s := s) (H := H) (E := E)
  have ow := ownE (P := P) (w := w) (K := K) (mg := mg) (base := base) (N := N_count) (qual := "_law_count") (scope := defScope st_count) (f := f) (cd := cdv) (A := A) (outer := outer) (s := s) (H := H) (E := E)
  exact (zC (zSetO 3 nd (lsF (aC cI (aC cI aN))))
    (zC (zFor (iR2 (hB _ h_range) (toMixC cI) (toMixC (bAddC hK (xV 1) cI))) (gN 4 nd) (zC (zApp 3 (ixC hK (toClean (lsF (aC (bMulC (xV 4) (ixO (i := 3) hK (toMixC (uNeg (toMixC cI))))) (aC (bAddC hK (bMulC (bSub (toMixC (xV 4)) (toMixC cI)) (ixO (i := 3) hK (toMixC (uNeg (toMixC cI))))) (bMulC (bSub (toMixC (xV 4)) (toMixC cI)) (ixO (i := 3) hK (toMixC (uNeg (toMixC cI)))))) aN)))) (kInt (hB _ h_int) (aX (toMixC (xV 2)) aN))))
    s_nil) (hp := ow))
    (zC (s_ret (bMulC (callC hK tk C_choose (hr.mono (by decide)) hgd (aC (bSub (toMixC (xV 0)) (toMixC cI)) (aC (bSub (toMixC (xV 1)) (toMixC cI)) aN))) (ixO (i := 3) hK (toMixC (xV 1)))))
    s_nil)))
theorem ok_count {P : Program} {w : World} {K : PySem.W.Frag} {mg : Str → Option Value} {base : Heap} {cl xc : Nat → Addr} {R f : Addr} {fd : FuncData} (hB : Blt mg) (hC : Cst mg)  (C_choose : Cal (jsND K cl xc xfT R) P w mg base 1 "_law_choose" 2 F_choose) (F : L2.Fun K "_law_count" "_law_count" st_count f fd) (hm : mg "_law_count" = some (.ref f)) (hb : Binds K fd ["_law_n", "_law_blocks", "_law_only"] []) :
    Cal (jsND K cl xc xfT R) P w mg base 2 "_law_count" 3 F_count :=
  ⟨⟨f, fd, ["_law_n", "_law_blocks", "_law_only"], fnG_D F sc_count rfl (by decide) (fun cdv A outer s H E B hr hgd => b_count hB hC  C_choose  hr hgd), hm, F.kp, hb⟩, runF_len⟩


/-! ### _law_large_right -/
def f_large_right : Sv Nat := (sSeq (sSet 4 (eCall F_count (aCons (eVar 1) (aCons (eVar 2) (aCons (eVar 3) aNil)))))
    (sSeq (sFor (iSeq (eLst (aCons (eOp subD (eVar 4) (eC (.int 1))) (aCons (eCall drawF (aCons (eVar 0) (aCons (eVar 4) aNil))) aNil)))) (gNm 5) (sSeq (sSet 6 (eCallK F_p_exchange_at (aCons (eVar 1) (aCons (eVar 2) (aCons (eVar 5) aNil))) (eVar 3)))
    (sSeq (sIf (tOrD (tBl (eOp neD (eB sumB (aCons (eOp idxD (eVar 6) (eC (.int 0))) aNil)) (eVar 1))) (tOrD (tBl (eOp neD (eB lenB (aCons (eOp idxD (eVar 6) (eC (.int 0))) aNil)) (eVar 2))) (tBl (eOp neD (eB sortD (aCons (eOp idxD (eVar 6) (eC (.int 1))) aNil)) (eLrg (iRng1 (eVar 2))))))) (sSeq (sRet (eC (.bl false)))
    sNil) sNil)
    (sSeq (sIf (tOrD (tBl (eOp ltD (eB minT (aCons (eOp idxD (eVar 6) (eC (.int 0))) aNil)) (eC (.int 1)))) (tAndD (tOf (eVar 3)) (tNotD (tOf (eCall F_is_standard (aCons (eOp idxD (eVar 6) (eC (.int 1))) aNil)))))) (sSeq (sRet (eC (.bl false)))
    sNil) sNil)
    (sSeq (sIf (tBl (eOp neD (eB reprB (aCons (eCallK F_p_exchange_index (aCons (eVar 6) aNil) (eVar 3)) aNil)) (eB reprB (aCons (eVar 5) aNil)))) (sSeq (sRet (eC (.bl false)))
    sNil) sNil)
    (sSeq (sIf (tAndD (tBl (eOp ltD (eOp addD (eVar 5) (eC (.int 1))) (eVar 4))) (tNotD (tBl (eOp ltPD (eVar 6) (eCallK F_p_exchange_at (aCons (eVar 1) (aCons (eVar 2) (aCons (eOp addD (eVar 5) (eC (.int 1))) aNil))) (eVar 3)))))) (sSeq (sRet (eC (.bl false)))
    sNil) sNil)
    sNil))))))
    (sSeq (sSet 7 (eC (.int 0)))
    (sSeq (sForG 6 y_p_walk_exchanges 5 (aKw (aCons (eVar 1) (aCons (eVar 2) aNil)) (eVar 3)) (sSeq (sIf (tBl (eOp neD (eB reprB (aCons (eCallK F_p_exchange_at (aCons (eVar 1) (aCons (eVar 2) (aCons (eVar 7) aNil))) (eVar 3)) aNil)) (eB reprB (aCons (eVar 6) aNil)))) (sSeq (sRet (eC (.bl false)))
    sNil) sNil)
    (sSeq (sSet 7 (eOp addD (eVar 7) (eC (.int 1))))
    (sSeq (sIf (tBl (eOp eqD (eVar 7) (eC (.int 3)))) (sSeq sBrk
    sNil) sNil)
    sNil))))
    (sSeq (sRet (eOp eqD (eVar 7) (eB minB (aCons (eC (.int 3)) (aCons (eVar 4) aNil)))))
    sNil)))))
instance : MoS f_large_right := by unfold f_large_right; infer_instance
def F_large_right : Fv Nat := runF 8 4 f_large_right
instance : MoF F_large_right := inferInstanceAs (MoF (runF 8 4 f_large_right))
def M_large_right : Nat → Bool := fun i => false
abbrev N_large_right : List Str := ["_law_deal", "_law_n", "_law_blocks", "_law_only", "_law_many", "_law_index", "_law_row", "_law_met"]
abbrev st_large_right : Stmt := top 29
theorem sc_large_right : FnScope N_large_right ["_law_deal", "_law_n", "_law_blocks", "_law_only"] (defScope st_large_right) := ⟨rfl, rfl, rfl, by decide +kernel, rfl, by decide +kernel, by decide +kernel⟩
theorem b_large_right {P : Program} {w : World} {K : PySem.W.Frag} {mg : Str → Option Value} {base : Heap} {cl xc : Nat → Addr} {R f : Addr} {cdv : Value} {A : Around} {outer : List Env} {s : Shared} {H : Hp} {E : XK} {B : Bs} (hB : Blt mg) (hC : Cst mg)  (C_count : Cal (jsND K cl xc xfT R) P w mg base 2 "_law_count" 3 F_count) (C_is_standard : Cal (jsND K cl xc xfT R) P w mg base 1 "_law_is_standard" 1 F_is_standard) (C_roll : Cal (jsND K cl xc xfT R) P w mg base 1 "_law_roll" 2 drawF) (C_p_exchange_at : CalK (jsND K cl xc xfT R) P w mg base 12 "exchange_at" 3 "standard" (.bl false) F_p_exchange_at) (C_p_exchange_index : CalK (jsND K cl xc xfT R) P w mg base 12 "exchange_index" 1 "standard" (.bl false) F_p_exchange_index) (C_p_walk_exchanges : CalYK (jsND K cl xc xfT R) P w mg base 29 "walk_exchanges" 2 "standard" (.bl false) 5 y_p_walk_exchanges) (hNS : ∀ c, PySem.W.subIn K (.ref (xc c)) (.type "StopIteration") = some false) 
    (hr : Room 31 (A.deeper (envOfC "_law_large_right" (defScope st_large_right) s.heap.objs.size f cdv))) (hgd : (A.deeper (envOfC "_law_large_right" (defScope st_large_right) s.heap.objs.size f cdv)).guards = some []) :
    PSs (cxE P w K mg base N_large_right "_law_large_right" (defScope st_large_right) f cdv A outer s H E) (defBody st_large_right) (rdS (jsND K cl xc xfT R) B M_large_right (WD E) f_large_right) := by
  have hu := hr.units
  have hv := hv_of hr
  have hK : K = (jsND K cl xc xfT R).K := rfl
  have nd := sc_large_right.nd
  have tk := takesE (P := P) (w := w) (K := K) (mg := mg) (base := base) (N := N_large_right) (qual := "_law_large_right") (scope := defScope st_large_right) (f := f) (cd := cdv) (A := A) (outer := outer) (s := s) (H := H) (E := E)
  have ow := ownE (P := P) (w := w) (K := K) (mg := mg) (base := base) (N := N_large_right) (qual := "_law_large_right") (scope := defScope st_large_right) (f := f) (cd := cdv) (A := A) (outer := outer) (s := s) (H := H) (E := E)
  exact (zC (zSet 4 nd (callC hK tk C_count (hr.mono (by decide)) hgd (aC (xV 1) (aC (xV 2) (aC (xV 3) aN)))))
    (zC (zFor (iSq hK (toClean (lsF (aC (bSub (toMixC (xV 4)) (toMixC cI)) (aC (callC hK tk C_roll (hr.mono (by decide)) hgd (aC (xV 0) (aC (xV 4) aN))) aN))))) (gN 5 nd) (zC (zSet 6 nd (callK hK tk C_p_exchange_at (hr.mono (by decide)) hgd (aC (xV 1) (aC (xV 2) (aC (xV 5) aN))) (xV 3)))
    (zC (s_if (PW.pt (t_or (tCp (kNe hK hu) s_ne (toMixC (kSum hK (hB _ h_sum) (aX (toMixC (ixC hK (xV 6) cI)) aN))) (toMixC (xV 1))) (t_or (tCp (kNe hK hu) s_ne (toMixC (kLen hK (hB _ h_len) (aX (toMixC (ixC hK (xV 6) cI)) aN))) (toMixC (xV 2))) (t_or1 (tCp (kNe hK hu) s_ne (toMixF (kSortD hK (hB _ h_sorted) (aX (toMixC (ixC hK (xV 6) cI)) aN))) (toMixF (lR1 (hB _ h_list) (hB _ h_range) (toMixC (xV 2))))))))) (zC (s_ret cB)
    s_nil) s_nil)
    (zC (s_if (PW.pt (t_or (tCp (op_lt) s_cmp (toMixC (kMinT hK (hB _ h_min) (aX (toMixC (ixC hK (xV 6) cI)) aN))) (toMixC cI)) (t_or1 (PW.pt (t_and (tTr hK (toMixC (xV 3))) (t_and1 (t_not (tTr hK (toMixC (callC hK tk C_is_standard (hr.mono (by decide)) hgd (aC (ixC hK (xV 6) cI) aN))))))))))) (zC (s_ret cB)
    s_nil) s_nil)
    (zC (s_if (tCp (kNe hK hu) s_ne (toMixC (kRepr hK hgd hu (hB _ h_repr) (aX (toMixC (callK hK tk C_p_exchange_index (hr.mono (by decide)) hgd (aC (xV 6) aN) (xV 3))) aN))) (toMixC (kRepr hK hgd hu (hB _ h_repr) (aX (toMixC (xV 5)) aN)))) (zC (s_ret cB)
    s_nil) s_nil)
    (zC (s_if (PW.pt (t_and (tCp (op_lt) s_cmp (toMixC (bAddC hK (xV 5) cI)) (toMixC (xV 4))) (t_and1 (t_not (tCp (kLtP hK hu) s_ltP (toMixC (xV 6)) (toMixC (callK hK tk C_p_exchange_at (hr.mono (by decide)) hgd (aC (xV 1) (aC (xV 2) (aC (bAddC hK (xV 5) cI) aN))) (xV 3)))))))) (zC (s_ret cB)
    s_nil) s_nil)
    s_nil))))) (hp := ow))
    (zC (zSet 7 nd cI)
    (zC (zForG 6 nd hK tk hNS (hr.mono (by decide)) hgd (gCalK hK C_p_walk_exchanges (hr.mono (by decide)) (aC (xV 1) (aC (xV 2) aN)) (xV 3)) (zC (s_if (tCp (kNe hK hu) s_ne (toMixC (kRepr hK hgd hu (hB _ h_repr) (aX (toMixC (callK hK tk C_p_exchange_at (hr.mono (by decide)) hgd (aC (xV 1) (aC (xV 2) (aC (xV 7) aN))) (xV 3))) aN))) (toMixC (kRepr hK hgd hu (hB _ h_repr) (aX (toMixC (xV 6)) aN)))) (zC (s_ret cB)
    s_nil) s_nil)
    (zC (zSet 7 nd (bAddC hK (xV 7) cI))
    (zC (s_if (tCp (kEq hK hu) s_eq (toMixC (xV 7)) (toMixC cI)) (zC s_break
    s_nil) s_nil)
    s_nil))) ow stillE)
    (zC (s_ret (eCp (kEq hK hu) s_eq (toMixC (xV 7)) (toMixC (kMin hK (hB _ h_min) (aX (toMixC cI) (aX (toMixC (xV 4)) aN))))))
    s_nil)))))
theorem ok_large_right {P : Program} {w : World} {K : PySem.W.Frag} {mg : Str → Option Value} {base : Heap} {cl xc : Nat → Addr} {R f : Addr} {fd : FuncData} (hB : Blt mg) (hC : Cst mg)  (C_count : Cal (jsND K cl xc xfT R) P w mg base 2 "_law_count" 3 F_count) (C_is_standard : Cal (jsND K cl xc xfT R) P w mg base 1 "_law_is_standard" 1 F_is_standard) (C_roll : Cal (jsND K cl xc xfT R) P w mg base 1 "_law_roll" 2 drawF) (C_p_exchange_at : CalK (jsND K cl xc xfT R) P w mg base 12 "exchange_at" 3 "standard" (.bl false) F_p_exchange_at) (C_p_exchange_index : CalK (jsND K cl xc xfT R) P w mg base 12 "exchange_index" 1 "standard" (.bl false) F_p_exchange_index) (C_p_walk_exchanges : CalYK (jsND K cl xc xfT R) P w mg base 29 "walk_exchanges" 2 "standard" (.bl false) 5 y_p_walk_exchanges) (hNS : ∀ c, PySem.W.subIn K (.ref (xc c)) (.type "StopIteration") = some false) (F : L2.Fun K "_law_large_right" "_law_large_right" st_large_right f fd) (hm : mg "_law_large_right" = some (.ref f)) (hb : Binds K fd ["_law_deal", "_law_n", "_law_blocks", "_law_only"] []) :
    Cal (jsND K cl xc xfT R) P w mg base 32 "_law_large_right" 4 F_large_right :=
  ⟨⟨f, fd, ["_law_deal", "_law_n", "_law_blocks", "_law_only"], fnG_D F sc_large_right rfl (by decide) (fun cdv A outer s H E B hr hgd => b_large_right hB hC  C_count C_is_standard C_roll C_p_exchange_at C_p_exchange_index C_p_walk_exchanges hNS hr hgd), hm, F.kp, hb⟩, runF_len⟩


/-! ### the law -/


def f_law : Sv Nat := (sSeq (sFor (iRng1 (eC (.int 4))) (gNm 2) (sSeq (sIf (tNotD (tOf (eCall F_small_right (aCons (eOp addD (eC (.int 1)) (eCall drawF (aCons (eVar 1) (aCons (eC (.int 6)) aNil)))) (aCons (eOp addD (eC (.int 1)) (eCall drawF (aCons (eVar 1) (aCons (eC (.int 5)) aNil)))) (aCons (eOp eqD (eOp modD (eVar 2) (eC (.int 2))) (eC (.int 1))) aNil)))))) (sSeq (sRet (eC (.bl false)))
    sNil) sNil)
    sNil))
    (sSeq (sFor (iRng1 (eC (.int 4))) (gNm 2) (sSeq (sSet 3 (eOp addD (eC (.int 1)) (eCall drawF (aCons (eVar 1) (aCons (eOp idxD (eLst (aCons (eC (.int 4)) (aCons (eC (.int 4)) (aCons (eC (.int 6)) (aCons (eC (.int 6)) aNil))))) (eVar 2)) aNil)))))
    (sSeq (sSet 4 (eOp addD (eVar 3) (eCall drawF (aCons (eVar 1) (aCons (eOp subD (eOp powD (eC (.int 10)) (eC (.int 12))) (eC (.int 8))) aNil)))))
    (sSeq (sIf (tNotD (tOf (eCall F_large_right (aCons (eVar 1) (aCons (eVar 4) (aCons (eVar 3) (aCons (eOp eqD (eOp modD (eVar 2) (eC (.int 2))) (eC (.int 1))) aNil))))))) (sSeq (sRet (eC (.bl false)))
    sNil) sNil)
    sNil))))
    (sSeq (sSet 5 (eLst (aCons (eCallD F_p_exchange_at (.bl false) (aCons (eC (.int 4)) (aCons (eC (.int 2)) (aCons (eC (.int 1)) aNil)))) (aCons (eCallK F_p_exchange_at (aCons (eC (.int 4)) (aCons (eC (.int 2)) (aCons (eC (.int 1)) aNil))) (eC (.bl false))) aNil))))
    (sSeq (sRet (eAnd (eOp eqD (eVar 5) (eOp mulD (eLst (aCons (eTup (aCons (eTup (aCons (eC (.int 1)) (aCons (eC (.int 3)) aNil))) (aCons (eTup (aCons (eC (.int 1)) (aCons (eC (.int 0)) aNil))) aNil))) aNil)) (eC (.int 2)))) (eOp eqD (eListG y_p_walk_exchanges 5 (aDf (.bl false) (aCons (eC (.int 2)) (aCons (eC (.int 2)) aNil)))) (eCall F_all (aCons (eC (.int 2)) (aCons (eC (.int 2)) (aCons (eC (.bl false)) aNil)))))))
    sNil))))
def M_law : Nat → Bool := fun i => false

abbrev N_law : List Str := ["_law_script", "_law_deal", "_law_turn", "_law_blocks", "_law_n", "_law_rows", "_law_row"]
abbrev st_law : Stmt := top 30
theorem sc_law : FnScope N_law ["_law_script"] (defScope st_law) := ⟨rfl, rfl, rfl, by decide +kernel, rfl, by decide +kernel, by decide +kernel⟩
theorem b_law {P : Program} {w : World} {K : PySem.W.Frag} {mg : Str → Option Value} {base : Heap} {cl xc : Nat → Addr} {R f : Addr} {cdv : Value} {A : Around} {outer : List Env} {s : Shared} {H : Hp} {E : XK} {B : Bs} (hB : Blt mg) (hC : Cst mg) (C_all : Cal (jsND K cl xc xfT R) P w mg base 10 "_law_all" 3 F_all) (C_large_right : Cal (jsND K cl xc xfT R) P w mg base 32 "_law_large_right" 4 F_large_right) (C_roll : Cal (jsND K cl xc xfT R) P w mg base 1 "_law_roll" 2 drawF) (C_small_right : Cal (jsND K cl xc xfT R) P w mg base 32 "_law_small_right" 3 F_small_right) (C_p_exchange_at : CalK (jsND K cl xc xfT R) P w mg base 12 "exchange_at" 3 "standard" (.bl false) F_p_exchange_at) (C_p_walk_exchanges : CalYK (jsND K cl xc xfT R) P w mg base 29 "walk_exchanges" 2 "standard" (.bl false) 5 y_p_walk_exchanges) 
    (hr : Room 32 (A.deeper (envOfC "law" (defScope st_law) s.heap.objs.size f cdv))) (hgd : (A.deeper (envOfC "law" (defScope st_law) s.heap.objs.size f cdv)).guards = some []) :
    PSs (cxF P w K mg base N_law "law" (defScope st_law) f cdv A outer s H E) (defBody st_law).tail (rdS (jsND K cl xc xfT R) B M_law W0 f_law) := by
  have hu := hr.units
  have hv := hv_of hr
  have hK : K = (jsND K cl xc xfT R).K := rfl
  have nd := sc_law.nd
  have tk := takesW0 (X := cxF P w K mg base N_law "law" (defScope st_law) f cdv A outer s H E)
  have ow : PassesOwn (model P w) (cxF P w K mg base N_law "law" (defScope st_law) f cdv A outer s H E).A (cxF P w K mg base N_law "law" (defScope st_law) f cdv A outer s H E).env (cxF P w K mg base N_law "law" (defScope st_law) f cdv A outer s H E).xe := PassesOwn.never
  exact (zC (zFor (iR1 (hB _ h_range) (toMixC cI)) (gN 2 nd) (zC (s_if (t_not (tTr hK (toMixC (callC hK tk C_small_right (hr.mono (by decide)) hgd (aC (bAddC hK cI (callC hK tk C_roll (hr.mono (by decide)) hgd (aC (xV 1) (aC cI aN)))) (aC (bAddC hK cI (callC hK tk C_roll (hr.mono (by decide)) hgd (aC (xV 1) (aC cI aN)))) (aC (eCp (kEq hK hu) s_eq (toMixC (bMod (toMixC (xV 2)) (toMixC cI))) (toMixC cI)) aN))))))) (zC (s_ret cB)
    s_nil) s_nil)
    s_nil) (hp := ow))
    (zC (zFor (iR1 (hB _ h_range) (toMixC cI)) (gN 2 nd) (zC (zSet 3 nd (bAddC hK cI (callC hK tk C_roll (hr.mono (by decide)) hgd (aC (xV 1) (aC (ixC hK (toClean (lsF (aC cI (aC cI (aC cI (aC cI aN)))))) (xV 2)) aN)))))
    (zC (zSet 4 nd (bAddC hK (xV 3) (callC hK tk C_roll (hr.mono (by decide)) hgd (aC (xV 1) (aC (bSub (toMixC (bPow (toMixC cI) (toMixC cI))) (toMixC cI)) aN)))))
    (zC (s_if (t_not (tTr hK (toMixC (callC hK tk C_large_right (hr.mono (by decide)) hgd (aC (xV 1) (aC (xV 4) (aC (xV 3) (aC (eCp (kEq hK hu) s_eq (toMixC (bMod (toMixC (xV 2)) (toMixC cI))) (toMixC cI)) aN)))))))) (zC (s_ret cB)
    s_nil) s_nil)
    s_nil))) (hp := ow))
    (zC (zSet 5 nd (toClean (lsF (aC (callD hK tk C_p_exchange_at (hr.mono (by decide)) hgd (aC cI (aC cI (aC cI aN)))) (aC (callK hK tk C_p_exchange_at (hr.mono (by decide)) hgd (aC cI (aC cI (aC cI aN))) cB) aN)))))
    (zC (s_ret (e_and (k := true) hK (eCp (kEq hK hu) s_eq (toMixC (xV 5)) (toMixC (bMulC (toClean (lsF (aC (tpC (aC (tpC (aC cI (aC cI aN))) (aC (tpC (aC cI (aC cI aN))) aN))) aN))) cI))) (e_one (eCp (kEq hK hu) s_eq (toMixF (e_lcG stillF hK rfl rfl rfl (hr.mono (by decide)) hgd (gCalD hK C_p_walk_exchanges (hr.mono (by decide)) (aC cI (aC cI aN))))) (toMixC (callC hK tk C_all (hr.mono (by decide)) hgd (aC cI (aC cI (aC cB aN)))))))))
    s_nil))))
end Lw
namespace Lw
open PySem L2 Mp

/-! ### rows of blocks: plain mathematics -/
/-- an item, 0 beyond the end -/
def gt (A : List Nat) (i : Nat) : Nat := A.getD i 0
theorem gt_eq {A : List Nat} {i : Nat} (h : i < A.length) : gt A i = A[i] := by unfold gt; rw [List.getD_eq_getElem?_getD, List.getElem?_eq_getElem h]; rfl
theorem gt_opt {A : List Nat} {i : Nat} (h : i < A.length) : A[i]? = some (gt A i) := by rw [gt_eq h, List.getElem?_eq_getElem h]
/-- where block i begins -/
def pre (A : List Nat) (i : Nat) : Nat := (A.take i).sum
/-- the block of a place -/
def blk : List Nat → Nat → Nat
  | [], _ => 0
  | a :: r, p => if p < a then 0 else blk r (p - a) + 1
theorem getD_pos {A : List Nat} (hp : ∀ x ∈ A, 0 < x) {i : Nat} (h : i < A.length) : 0 < gt A i := by
  rw [gt_eq h]
  exact hp _ (List.getElem_mem _)
/-- blocks and an order of them -/
structure IsX (L O : List Nat) : Prop where
  len : L.length = O.length
  ne : 0 < O.length
  perm : O.Perm (List.range O.length)
  pos : ∀ x ∈ L, 0 < x
section
variable {L O : List Nat}
theorem IsX.nodup (h : IsX L O) : O.Nodup := h.perm.nodup_iff.mpr List.nodup_range
theorem IsX.lt (h : IsX L O) {b : Nat} (hb : b ∈ O) : b < O.length := List.mem_range.mp (h.perm.mem_iff.mp hb)
theorem IsX.mem (h : IsX L O) {b : Nat} (hb : b < O.length) : b ∈ O := h.perm.mem_iff.mpr (List.mem_range.mpr hb)
theorem IsX.ix (h : IsX L O) {b : Nat} (hb : b < O.length) : O.idxOf b < O.length := List.idxOf_lt_length_of_mem (h.mem hb)
theorem IsX.at_ix (h : IsX L O) {b : Nat} (hb : b < O.length) : O[O.idxOf b]'(h.ix hb) = b := List.getElem_idxOf _
theorem IsX.ix_at (h : IsX L O) {i : Nat} (hi : i < O.length) : O.idxOf O[i] = i := h.nodup.idxOf_getElem i hi
/-- the lengths in the order after a step -/
def loA (L O : List Nat) : List Nat := O.map fun b => gt L b
theorem loA_len : (loA L O).length = O.length := by unfold loA; simp
theorem map_getD_range : ∀ (L : List Nat), (List.range L.length).map (fun b => gt L b) = L := fun L => by
  apply List.ext_getElem
  · simp
  · intro i h1 h2; simp at h1 ⊢
    exact gt_eq h2
theorem IsX.sum (h : IsX L O) : (loA L O).sum = L.sum := by
  unfold loA
  have := (h.perm.map fun b => gt L b).sum_nat
  rw [this, ← h.len, map_getD_range]
theorem IsX.lo_pos (h : IsX L O) : ∀ x ∈ loA L O, 0 < x := fun x hx => by
  obtain ⟨b, hb, rfl⟩ := List.mem_map.mp hx
  exact getD_pos h.pos (by rw [h.len]; exact h.lt hb)
/-- where the block b begins after a step -/
def aft (L O : List Nat) (b : Nat) : Nat := pre (loA L O) (O.idxOf b)
/-- a step -/
def T (L O : List Nat) (p : Nat) : Nat := aft L O (blk L p) + (p - pre L (blk L p))
/-! the exchange back -/
def invO (O : List Nat) : List Nat := (List.range O.length).map fun b => O.idxOf b
theorem few_of : ∀ (k : Nat) (O : List Nat), O.Nodup → (∀ x ∈ O, x < k) → O.length ≤ k
  | 0, O, _, lt => by
    cases O with
    | nil => exact Nat.le_refl _
    | cons a r => exact absurd (lt a List.mem_cons_self) (Nat.not_lt_zero _)
  | k + 1, O, nd, lt => by
    by_cases hk : k ∈ O
    · have h1 := few_of k (O.erase k) (nd.erase k) fun x hx => by
        have h2 := (nd.mem_erase_iff.mp hx)
        have := lt x h2.2
        omega
      rw [List.length_erase_of_mem hk] at h1
      omega
    · have := few_of k O nd fun x hx => by
        have h1 := lt x hx
        have h2 : x ≠ k := fun z => hk (z ▸ hx)
        omega
      omega
theorem perm_of : ∀ (k : Nat) (O : List Nat), O.Nodup → (∀ x ∈ O, x < k) → O.length = k → O.Perm (List.range k)
  | 0, O, _, _, l => by
    rw [List.length_eq_zero_iff.mp l]; exact List.Perm.refl _
  | k + 1, O, nd, lt, l => by
    by_cases hk : k ∈ O
    · have h1 := perm_of k (O.erase k) (nd.erase k) (fun x hx => by
        have h2 := (nd.mem_erase_iff.mp hx)
        have := lt x h2.2
        omega) (by rw [List.length_erase_of_mem hk]; omega)
      rw [List.range_succ]
      exact (List.perm_cons_erase hk).trans ((List.Perm.cons k h1).trans (List.perm_append_singleton k _).symm)
    · have := few_of k O nd fun x hx => by
        have h1 := lt x hx
        have h2 : x ≠ k := fun z => hk (z ▸ hx)
        omega
      omega
theorem invO_len : (invO O).length = O.length := by unfold invO; simp
theorem IsX.invO_nd (h : IsX L O) : (invO O).Nodup := by
  unfold invO
  refine List.pairwise_map.mpr (List.Pairwise.imp_of_mem (fun {a b} ha hb hab z => hab ?_) List.nodup_range)
  rw [← h.at_ix (List.mem_range.mp ha), ← h.at_ix (List.mem_range.mp hb)]
  simp only [z]
theorem IsX.inv (h : IsX L O) : IsX (loA L O) (invO O) := by
  refine ⟨by rw [loA_len, invO_len], by rw [invO_len]; exact h.ne, ?_, h.lo_pos⟩
  rw [invO_len]
  refine perm_of _ _ h.invO_nd (fun x hx => ?_) invO_len
  obtain ⟨b, hb, rfl⟩ := List.mem_map.mp hx
  exact h.ix (List.mem_range.mp hb)
/-- the shift of a block -/
def sft (L O : List Nat) (b : Nat) : Int := (aft L O b : Int) - (pre L b : Int)
end
/-! ### data of ints -/
def dN (O : List Nat) : List D := O.map fun n => .int ((n : Nat) : Int)
def dI (xs : List Int) : List D := xs.map D.int
abbrev tN (O : List Nat) : D := .tup (dN O)
abbrev lN (O : List Nat) : D := .lst (dN O)
abbrev tZ (O : List Int) : D := .tup (dI O)
abbrev lZ (O : List Int) : D := .lst (dI O)
abbrev exD (L O : List Nat) : D := .tup [tN L, tN O]
def zN (O : List Nat) : List Int := O.map fun n => ((n : Nat) : Int)
theorem dN_z (O : List Nat) : dN O = dI (zN O) := by unfold dN dI zN; rw [List.map_map]; rfl
theorem zN_inj : ∀ {A B : List Nat}, zN A = zN B → A = B
  | [], [], _ => rfl
  | a :: A, b :: B, h => by
    have h1 := List.cons.inj (show (a : Int) :: zN A = (b : Int) :: zN B from h)
    rw [zN_inj h1.2]
    have : a = b := by exact_mod_cast h1.1
    rw [this]
  | [], _ :: _, h => by cases h
  | _ :: _, [], h => by cases h
@[simp] theorem dN_len {O : List Nat} : (dN O).length = O.length := by unfold dN; simp
@[simp] theorem dI_len {O : List Int} : (dI O).length = O.length := by unfold dI; simp
@[simp] theorem dN_nil : dN [] = [] := rfl
@[simp] theorem dI_nil : dI [] = [] := rfl
@[simp] theorem zN_len {O : List Nat} : (zN O).length = O.length := by unfold zN; simp
theorem dN_snoc {O : List Nat} {n : Nat} : dN O ++ [.int (n : Int)] = dN (O ++ [n]) := by unfold dN; simp
theorem dN_app {O U : List Nat} : dN O ++ dN U = dN (O ++ U) := by unfold dN; simp
theorem dN_get {O : List Nat} {i : Nat} (h : i < O.length) : (dN O)[i]? = some (.int (gt O i : Nat)) := by unfold dN; simp [gt_opt h]
theorem dN_at {O : List Nat} {i : Nat} {d : D} (h : (dN O)[i]? = some d) : i < O.length ∧ d = .int (gt O i : Nat) := by
  have hlt := (List.getElem?_eq_some_iff.mp h).1
  rw [dN_len] at hlt
  rw [dN_get hlt] at h
  exact ⟨hlt, (Option.some.inj h).symm⟩
/-- an item of a list of ints -/
def gz (A : List Int) (i : Nat) : Int := A.getD i 0
theorem dN_drop {O : List Nat} {k : Nat} : (dN O).drop k = dN (O.drop k) := by unfold dN; rw [List.map_drop]
theorem rng_N {k : Nat} : rngD 0 k = dN (List.range k) := by rw [nrng]; rfl
theorem sum_z : ∀ (L : List Nat), (zN L).sum = ((L.sum : Nat) : Int)
  | [] => rfl
  | a :: r => by
    have := sum_z r
    show (a : Int) + (zN r).sum = _
    rw [this, List.sum_cons]; omega
theorem sum_tI {xs : List Int} : sumB [tZ xs] = some (.int xs.sum) := by
  show (match ints? (dI xs) with | some ns => some (D.int ns.sum) | none => none) = _
  unfold dI
  rw [ints?_map]
theorem sum_lI {xs : List Int} : sumB [lZ xs] = some (.int xs.sum) := by
  show (match ints? (dI xs) with | some ns => some (D.int ns.sum) | none => none) = _
  unfold dI
  rw [ints?_map]
@[simp] theorem sum_tN {L : List Nat} : sumB [tN L] = some (.int (L.sum : Nat)) := by
  show sumB [.tup (dN L)] = _
  rw [dN_z]; exact sum_tI.trans (by rw [sum_z])
@[simp] theorem sum_lN {L : List Nat} : sumB [lN L] = some (.int (L.sum : Nat)) := by
  show sumB [.lst (dN L)] = _
  rw [dN_z]; exact sum_lI.trans (by rw [sum_z])
theorem ix_t {O : List Nat} {i : Nat} (h : i < O.length) : idxD (tN O) (.int ((i : Nat) : Int)) = some (.int (gt O i : Nat)) := idx_t (dN_get h)
theorem ix_l {O : List Nat} {i : Nat} (h : i < O.length) : idxD (lN O) (.int ((i : Nat) : Int)) = some (.int (gt O i : Nat)) := idx_l (dN_get h)
@[simp] theorem ix_0 {a b : D} : idxD (.tup [a, b]) (.int 0) = some a := rfl
@[simp] theorem ix_1 {a b : D} : idxD (.tup [a, b]) (.int 1) = some b := rfl
theorem LN : LINE = 1000000 := rfl
theorem LM : LIM = 2305843009213693952 := rfl
theorem wC_NF {J : Type} {f : Ev J} {t : Tv J} [MoT t] [MoE f] {wm : Sd} {γ : Gv} {j : J} {P : List D → J → Prop} {O : List Nat} (p : Nat → Bool) (h : Nat → D) (hs : ∀ x ∈ O, ∃ m1, γ (.int ((x : Nat) : Int)) wm = some m1 ∧ t m1 j (fun b j1 => b = p x ∧ j1 = j) xNo ∧ (p x = true → f m1 j (fun y j2 => y = h x ∧ j2 = j) xNo)) (hd : P ((O.filter p).map h) j) : WC wm γ t f (dN O) j P := wC_filter p h hs hd
/-- where the blocks begin -/
def begs (L : List Nat) : List Nat := (List.range L.length).map (pre L)
/-- the shifts of the blocks -/
def sfts (L O : List Nat) : List Int := (List.range O.length).map (sft L O)
/-! ### slices, ==, in, sorted, repr -/
@[simp] theorem tru_bl {b : Bool} : truD (.bl b) = some b := rfl
@[simp] theorem cut_take {xs : List D} {k : Nat} : cutD xs none (some ((k : Nat) : Int)) = xs.take k := by
  unfold cutD
  have e1 : HT.sIx xs.length 0 none = 0 := rfl
  rw [e1, HT.sIx_nat, List.drop_zero, Nat.sub_zero]
  by_cases h : k ≤ xs.length
  · rw [Nat.min_eq_left h]
  · rw [Nat.min_eq_right (by omega), List.take_length, List.take_of_length_le (by omega)]
@[simp] theorem cut_drop {xs : List D} {k : Nat} : cutD xs (some ((k : Nat) : Int)) none = xs.drop k := by
  unfold cutD
  have e1 : HT.sIx xs.length xs.length none = xs.length := rfl
  rw [e1, HT.sIx_nat]
  by_cases h : k ≤ xs.length
  · rw [Nat.min_eq_left h, List.take_of_length_le (by simp)]
  · rw [Nat.min_eq_right (by omega), List.drop_length, List.drop_eq_nil_of_le (by omega)]; simp
@[simp] theorem cut_drop1 {xs : List D} : cutD xs (some 1) none = xs.drop 1 := cut_drop (k := 1)
@[simp] theorem cut_take1 {xs : List D} : cutD xs none (some 1) = xs.take 1 := cut_take (k := 1)
@[simp] theorem slice_t {xs : List D} {a b : Option Int} : sliceD (.tup xs) a b = some (.tup (cutD xs a b)) := rfl
@[simp] theorem slice_l {xs : List D} {a b : Option Int} : sliceD (.lst xs) a b = some (.lst (cutD xs a b)) := rfl
@[simp] theorem slice_L {xs : List D} {a b : Option Int} : sliceL (.lst xs) a b = some (.lst (cutD xs a b)) := rfl
theorem add_t {xs ys : List D} (h : xs.length + ys.length ≤ 1000000) : addD (.tup xs) (.tup ys) = some (.tup (xs ++ ys)) := if_pos h
mutual
/-- data of None, ints, strings -/
def pln : D → Bool
  | .non => true
  | .int _ => true
  | .tup xs => plnL xs
  | .lst xs => plnL xs
  | _ => false
def plnL : List D → Bool
  | [] => true
  | x :: xs => pln x && plnL xs
end
mutual
theorem py_pln : ∀ (d : D), pln d = true → ∃ p, py d = some p ∧ p.canLay0 = true ∧ p.depth = dpD d
  | .non, _ => ⟨_, rfl, rfl, rfl⟩
  | .int i, _ => ⟨_, rfl, rfl, rfl⟩
  | .tup xs, h => by
    obtain ⟨ps, h1, h2, h3⟩ := py_plnL xs h
    exact ⟨.tuple ps, by unfold py; rw [h1], h2, by show PyData.depthAll ps + 1 = _; rw [h3]; rfl⟩
  | .lst xs, h => by
    obtain ⟨ps, h1, h2, h3⟩ := py_plnL xs h
    exact ⟨.list ps, by unfold py; rw [h1], h2, by show PyData.depthAll ps + 1 = _; rw [h3]; rfl⟩
  | .bl _, h => by cases h
  | .str _, h => by cases h
  | .dct _, h => by cases h
  | .jar, h => by cases h
  | .obj _, h => by cases h
  | .ins _ _, h => by cases h
theorem py_plnL : ∀ (ds : List D), plnL ds = true → ∃ ps, pyL ds = some ps ∧ PyData.canLayAll0 ps = true ∧ PyData.depthAll ps = dpL ds
  | [], _ => ⟨[], rfl, rfl, rfl⟩
  | d :: ds, h => by
    unfold plnL at h
    rw [Bool.and_eq_true] at h
    obtain ⟨p, a1, a2, a3⟩ := py_pln d h.1
    obtain ⟨ps, h1, h2, h3⟩ := py_plnL ds h.2
    exact ⟨p :: ps, by unfold pyL; rw [a1, h1], by unfold PyData.canLayAll0; rw [a2, h2]; rfl, by unfold PyData.depthAll dpL; rw [a3, h3]⟩
end
mutual
theorem eqv_pln : ∀ (d e : D) {p q : PyData}, pln d = true → pln e = true → py d = some p → py e = some q → (PyData.eqv p q = true ↔ d = e)
  | .non, .non, p, q, _, _, h1, h2 => by cases h1; cases h2; simp [PyData.eqv]
  | .non, .int _, p, q, _, _, h1, h2 => by cases h1; cases h2; simp [PyData.eqv]
  | .int _, .non, p, q, _, _, h1, h2 => by cases h1; cases h2; simp [PyData.eqv]
  | .int a, .int b, p, q, _, _, h1, h2 => by cases h1; cases h2; simp [PyData.eqv]
  | .non, .tup xs, p, q, _, h, h1, h2 => by obtain ⟨ps, e, _⟩ := py_plnL xs h; cases h1; unfold py at h2; rw [e] at h2; cases h2; simp [PyData.eqv]
  | .non, .lst xs, p, q, _, h, h1, h2 => by obtain ⟨ps, e, _⟩ := py_plnL xs h; cases h1; unfold py at h2; rw [e] at h2; cases h2; simp [PyData.eqv]
  | .int _, .tup xs, p, q, _, h, h1, h2 => by obtain ⟨ps, e, _⟩ := py_plnL xs h; cases h1; unfold py at h2; rw [e] at h2; cases h2; simp [PyData.eqv]
  | .int _, .lst xs, p, q, _, h, h1, h2 => by obtain ⟨ps, e, _⟩ := py_plnL xs h; cases h1; unfold py at h2; rw [e] at h2; cases h2; simp [PyData.eqv]
  | .tup xs, .non, p, q, h, _, h1, h2 => by obtain ⟨ps, e, _⟩ := py_plnL xs h; cases h2; unfold py at h1; rw [e] at h1; cases h1; simp [PyData.eqv]
  | .lst xs, .non, p, q, h, _, h1, h2 => by obtain ⟨ps, e, _⟩ := py_plnL xs h; cases h2; unfold py at h1; rw [e] at h1; cases h1; simp [PyData.eqv]
  | .tup xs, .int _, p, q, h, _, h1, h2 => by obtain ⟨ps, e, _⟩ := py_plnL xs h; cases h2; unfold py at h1; rw [e] at h1; cases h1; simp [PyData.eqv]
  | .lst xs, .int _, p, q, h, _, h1, h2 => by obtain ⟨ps, e, _⟩ := py_plnL xs h; cases h2; unfold py at h1; rw [e] at h1; cases h1; simp [PyData.eqv]
  | .tup xs, .lst ys, p, q, h, g, h1, h2 => by obtain ⟨ps, e, _⟩ := py_plnL xs h; obtain ⟨qs, e', _⟩ := py_plnL ys g; unfold py at h1 h2; rw [e] at h1; rw [e'] at h2; cases h1; cases h2; simp [PyData.eqv]
  | .lst xs, .tup ys, p, q, h, g, h1, h2 => by obtain ⟨ps, e, _⟩ := py_plnL xs h; obtain ⟨qs, e', _⟩ := py_plnL ys g; unfold py at h1 h2; rw [e] at h1; rw [e'] at h2; cases h1; cases h2; simp [PyData.eqv]
  | .tup xs, .tup ys, p, q, h, g, h1, h2 => by
    obtain ⟨ps, e, _⟩ := py_plnL xs h; obtain ⟨qs, e', _⟩ := py_plnL ys g; unfold py at h1 h2; rw [e] at h1; rw [e'] at h2; cases h1; cases h2
    show PyData.eqvAll ps qs = true ↔ _
    rw [eqv_plnL xs ys h g e e']
    exact ⟨fun z => by rw [z], fun z => D.tup.inj z⟩
  | .lst xs, .lst ys, p, q, h, g, h1, h2 => by
    obtain ⟨ps, e, _⟩ := py_plnL xs h; obtain ⟨qs, e', _⟩ := py_plnL ys g; unfold py at h1 h2; rw [e] at h1; rw [e'] at h2; cases h1; cases h2
    show PyData.eqvAll ps qs = true ↔ _
    rw [eqv_plnL xs ys h g e e']
    exact ⟨fun z => by rw [z], fun z => D.lst.inj z⟩
theorem eqv_plnL : ∀ (ds es : List D) {ps qs : List PyData}, plnL ds = true → plnL es = true → pyL ds = some ps → pyL es = some qs → (PyData.eqvAll ps qs = true ↔ ds = es)
  | [], [], ps, qs, _, _, h1, h2 => by cases h1; cases h2; simp [PyData.eqvAll]
  | [], e :: es, ps, qs, _, h, h1, h2 => by
    obtain ⟨qs, e, _⟩ := py_plnL (e :: es) h
    cases h1
    rw [e] at h2; cases h2
    cases qs with
    | nil => unfold pyL at e; split at e <;> cases e
    | cons _ _ => simp [PyData.eqvAll]
  | d :: ds, [], ps, qs, h, _, h1, h2 => by
    obtain ⟨ps, e, _⟩ := py_plnL (d :: ds) h
    cases h2
    rw [e] at h1; cases h1
    cases ps with
    | nil => unfold pyL at e; split at e <;> cases e
    | cons _ _ => simp [PyData.eqvAll]
  | d :: ds, e :: es, ps, qs, h, g, h1, h2 => by
    unfold plnL at h g
    rw [Bool.and_eq_true] at h g
    obtain ⟨p, a1, _⟩ := py_pln d h.1
    obtain ⟨q, b1, _⟩ := py_pln e g.1
    obtain ⟨ps', a2, _⟩ := py_plnL ds h.2
    obtain ⟨qs', b2, _⟩ := py_plnL es g.2
    unfold pyL at h1 h2
    rw [a1, a2] at h1
    rw [b1, b2] at h2
    cases h1; cases h2
    show (PyData.eqv p q && PyData.eqvAll ps' qs') = true ↔ _
    rw [Bool.and_eq_true, eqv_pln d e h.1 g.1 a1 b1, eqv_plnL ds es h.2 g.2 a2 b2]
    exact ⟨fun z => by rw [z.1, z.2], fun z => List.cons.inj z⟩
end
theorem eqP_pln {d e : D} (h1 : pln d = true) (h2 : pln e = true) (d1 : dpD d ≤ 64) (d2 : dpD e ≤ 64) : eqP d e = some (@decide (d = e) (Classical.propDecidable _)) := by
  obtain ⟨p, a1, a2, a3⟩ := py_pln d h1
  obtain ⟨q, b1, b2, b3⟩ := py_pln e h2
  unfold eqP
  rw [a1, b1]
  have s1 : SeqAt.shaped p = true := by unfold SeqAt.shaped; rw [a2, a3]; simpa using d1
  have s2 : SeqAt.shaped q = true := by unfold SeqAt.shaped; rw [b2, b3]; simpa using d2
  simp only [s1, s2, Bool.and_self, if_true]
  congr 1
  rw [Bool.eq_iff_iff, eqv_pln d e h1 h2 a1 b1]
  simp
theorem neD_t {xs ys : List D} (h1 : plnL xs = true) (h2 : plnL ys = true) (d1 : dpL xs ≤ 63) (d2 : dpL ys ≤ 63) : neD (.tup xs) (.tup ys) = some (.bl (!@decide (xs = ys) (Classical.propDecidable _))) := by
  have h : eqB (.tup xs) (.tup ys) = _ := eqP_pln (d := .tup xs) (e := .tup ys) h1 h2 (by show dpL xs + 1 ≤ 64; omega) (by show dpL ys + 1 ≤ 64; omega)
  unfold neD; rw [h]
  simp
theorem neD_l {xs ys : List D} (h1 : plnL xs = true) (h2 : plnL ys = true) (d1 : dpL xs ≤ 63) (d2 : dpL ys ≤ 63) : neD (.lst xs) (.lst ys) = some (.bl (!@decide (xs = ys) (Classical.propDecidable _))) := by
  have h : eqB (.lst xs) (.lst ys) = _ := eqP_pln (d := .lst xs) (e := .lst ys) h1 h2 (by show dpL xs + 1 ≤ 64; omega) (by show dpL ys + 1 ≤ 64; omega)
  unfold neD; rw [h]
  simp
@[simp] theorem pln_N : ∀ {O : List Nat}, plnL (dN O) = true
  | [] => rfl
  | a :: r => by show (pln (.int a) && plnL (dN r)) = true; rw [pln_N]; rfl
@[simp] theorem pln_I : ∀ {O : List Int}, plnL (dI O) = true
  | [] => rfl
  | a :: r => by show (pln (.int a) && plnL (dI r)) = true; rw [pln_I]; rfl
@[simp] theorem dp_N : ∀ {O : List Nat}, dpL (dN O) = 0
  | [] => rfl
  | a :: r => by show max (dpD (.int a)) (dpL (dN r)) = 0; rw [dp_N]; rfl
@[simp] theorem dp_I : ∀ {O : List Int}, dpL (dI O) = 0
  | [] => rfl
  | a :: r => by show max (dpD (.int a)) (dpL (dI r)) = 0; rw [dp_I]; rfl
theorem dI_inj {A B : List Int} (h : dI A = dI B) : A = B := (List.map_inj_right (f := D.int) (fun x y z => D.int.inj z)).mp h
theorem dN_inj {A B : List Nat} (h : dN A = dN B) : A = B := zN_inj (dI_inj (by rw [← dN_z, ← dN_z]; exact h))
@[simp] theorem dN_iff {A B : List Nat} : dN A = dN B ↔ A = B := ⟨dN_inj, fun h => by rw [h]⟩
@[simp] theorem dI_iff {A B : List Int} : dI A = dI B ↔ A = B := ⟨dI_inj, fun h => by rw [h]⟩
theorem ne_lN {A B : List Nat} : neD (lN A) (lN B) = some (.bl (!decide (A = B))) := by
  rw [neD_l (by simp) (by simp) (by simp) (by simp)]
  simp
theorem ne_tN {A B : List Nat} : neD (tN A) (tN B) = some (.bl (!decide (A = B))) := by
  rw [neD_t (by simp) (by simp) (by simp) (by simp)]
  simp
/-! in -/
theorem any_ints {xs : List Int} {i : Int} : ((xs.map PyData.int).any fun z => PyData.eqv z (.int i)) = decide (i ∈ xs) := by
  rw [Bool.eq_iff_iff]
  simp [PyData.eqv]
theorem inB_t {xs : List Int} {i : Int} : inB (.int i) (tZ xs) = some (decide (i ∈ xs)) := by
  have e : py (.tup (dI xs)) = some (.tuple (xs.map PyData.int)) := by unfold py dI; rw [pyInts]
  have s : SeqAt.shaped (.tuple (xs.map PyData.int)) = true := shaped_ints xs
  show (match py (.int i), py (.tup (dI xs)) with | some p, some (.list ds) => _ | some p, some (.tuple ds) => _ | _, _ => _) = _
  rw [e]
  show (if (SeqAt.shaped (.int i) && SeqAt.shaped (.tuple (xs.map PyData.int))) = true then some ((xs.map PyData.int).any fun z => PyData.eqv z (.int i)) else none) = _
  rw [s, any_ints]
  rfl
theorem mem_z {O : List Nat} {i : Int} : i ∈ zN O ↔ ∃ n ∈ O, i = (n : Nat) := by
  unfold zN; simp only [List.mem_map]
  exact ⟨fun ⟨n, h, e⟩ => ⟨n, h, e.symm⟩, fun ⟨n, h, e⟩ => ⟨n, h, e.symm⟩⟩
theorem mem_zn {O : List Nat} {n : Nat} : ((n : Nat) : Int) ∈ zN O ↔ n ∈ O := by
  rw [mem_z]
  exact ⟨fun ⟨k, h, e⟩ => by have : n = k := by omega
                             rw [this]; exact h, fun h => ⟨n, h, rfl⟩⟩
theorem nin_tZ {O : List Nat} {i : Int} : ninD (.int i) (tN O) = some (.bl (!decide (i ∈ zN O))) := by
  unfold ninD
  show (match inB (.int i) (.tup (dN O)) with | some b => some (D.bl (!b)) | none => none) = _
  rw [dN_z, inB_t]
/-! sorted -/
theorem sort_l {xs : List Int} : sortD [lZ xs] = some (lZ (isort xs)) := by
  show (match ints? (dI xs) with | some ns => some (D.lst ((isort ns).map D.int)) | none => none) = _
  unfold dI
  rw [ints?_map]
  rfl
theorem sort_t {xs : List Int} : sortD [tZ xs] = some (lZ (isort xs)) := by
  show (match ints? (dI xs) with | some ns => some (D.lst ((isort ns).map D.int)) | none => none) = _
  unfold dI
  rw [ints?_map]
  rfl
/-- sorted, where the answer is known -/
theorem sort_lN {A B : List Nat} (hp : B.Perm A) (hs : B.Pairwise (· ≤ ·)) : sortD [lN A] = some (lN B) := by
  show sortD [.lst (dN A)] = some (.lst (dN B))
  rw [dN_z, sort_l, dN_z, ← isort_unique (ns := zN A) (ns' := zN B) (hp.map _) (by unfold zN; exact List.pairwise_map.mpr (hs.imp fun {a b} h => by omega))]
theorem sort_tN {A B : List Nat} (hp : B.Perm A) (hs : B.Pairwise (· ≤ ·)) : sortD [tN A] = some (lN B) := by
  show sortD [.tup (dN A)] = some (.lst (dN B))
  rw [dN_z, sort_t, dN_z, ← isort_unique (ns := zN A) (ns' := zN B) (hp.map _) (by unfold zN; exact List.pairwise_map.mpr (hs.imp fun {a b} h => by omega))]
/-! repr -/
theorem shw_N : ∀ {O : List Nat}, (∀ x ∈ O, x ≤ 10 ^ 20) → shwL (dN O) = true
  | [], _ => rfl
  | a :: r, h => by
    show (sm (a : Int) && shwL (dN r)) = true
    rw [shw_N fun x hx => h x (List.mem_cons_of_mem _ hx), sm_of (by omega) (by have := h a List.mem_cons_self; omega)]
    rfl
theorem sz_N : ∀ {O : List Nat}, szL (dN O) = 72 * O.length
  | [] => rfl
  | a :: r => by show szD (.int a) + 2 + szL (dN r) = _; rw [sz_N]; simp [szD]; omega
theorem shw_ex {L O : List Nat} (h1 : ∀ x ∈ L, x ≤ 10 ^ 20) (h2 : ∀ x ∈ O, x ≤ 10 ^ 20) : shw (exD L O) = true := by
  show (shwL (dN L) && (shwL (dN O) && true)) = true
  rw [shw_N h1, shw_N h2]; rfl
theorem dp_ex {L O : List Nat} : dpD (exD L O) = 2 := by
  show max (dpL (dN L) + 1) (max (dpL (dN O) + 1) 0) + 1 = 2
  rw [dp_N, dp_N]; rfl
theorem sz_ex {L O : List Nat} : szD (exD L O) = 72 * (L.length + O.length) + 16 := by
  show (szL (dN L) + 4) + 2 + ((szL (dN O) + 4) + 2 + 0) + 4 = _
  rw [sz_N, sz_N]; omega
theorem rep_ex {L O : List Nat} (h1 : ∀ x ∈ L, x ≤ 10 ^ 20) (h2 : ∀ x ∈ O, x ≤ 10 ^ 20) (h3 : L.length ≤ 1000) (h4 : O.length ≤ 1000) : ∃ x, reprB [exD L O] = some (.str x) := by
  obtain ⟨z, e, x, rfl⟩ := reprB_ok (P := fun z => ∃ x, z = .str x) (shw_ex h1 h2) (by rw [dp_ex]; omega) (by rw [sz_ex]; omega) fun x _ => ⟨x, rfl⟩
  exact ⟨x, e⟩

/-! ### kept blocks, standard forms -/
/-- b + 1 comes right after b -/
def kp (O : List Nat) (b : Nat) : Bool := decide (O.idxOf (b + 1) = O.idxOf b + 1)
def kpt (O : List Nat) : List Nat := (List.range (O.length - 1)).filter (kp O)
/-- b begins a block of the standard form -/
def hd0 (O : List Nat) (b : Nat) : Bool := b == 0 || !kp O (b - 1)
def hds (O : List Nat) : List Nat := (List.range O.length).filter (hd0 O)
def hde (O : List Nat) : List Nat := (hds O).drop 1 ++ [O.length]
def stL (L O : List Nat) : List Nat := (List.range (hds O).length).map fun i => pre L (gt (hde O) i) - pre L (gt (hds O) i)
def stO (O : List Nat) : List Nat := (O.filter fun b => decide (b ∈ hds O)).map (hds O).idxOf
section
variable {L O : List Nat}
theorem IsX.kpt_lt (h : IsX L O) {b : Nat} (hb : b ∈ kpt O) : b + 1 < O.length := by
  have := List.mem_range.mp (List.mem_filter.mp hb).1
  omega
theorem kpt_sorted : (kpt O).Pairwise (· ≤ ·) := List.Pairwise.filter _ (List.pairwise_lt_range.imp fun {a b} h => by omega)
/-- blocks that follow each other, sorted -/
theorem IsX.kpt_perm (h : IsX L O) : (kpt O).Perm (((O.zip (O.drop 1)).filter fun p => decide (p.2 = p.1 + 1)).map Prod.fst) := by
  have nd1 : (kpt O).Nodup := List.Nodup.sublist List.filter_sublist List.nodup_range
  have sub : ((O.zip (O.drop 1)).map Prod.fst).Sublist O := by
    have : ∀ (A B : List Nat), ((A.zip B).map Prod.fst).Sublist A := fun A => by
      induction A with
      | nil => intro B; simp
      | cons a A ih =>
        intro B
        cases B with
        | nil => simp
        | cons b B => exact (ih B).cons_cons a
    exact this _ _
  have nd2 : (((O.zip (O.drop 1)).filter fun p => decide (p.2 = p.1 + 1)).map Prod.fst).Nodup := List.Nodup.sublist (List.Sublist.map _ List.filter_sublist) (List.Nodup.sublist sub h.nodup)
  refine (List.perm_ext_iff_of_nodup nd1 nd2).mpr fun b => ?_
  constructor
  · intro hb
    have hlt := h.kpt_lt hb
    have hk : O.idxOf (b + 1) = O.idxOf b + 1 := of_decide_eq_true (List.mem_filter.mp hb).2
    have i1 := h.ix (show b < O.length by omega)
    have i2 := h.ix hlt
    refine List.mem_map.mpr ⟨(b, b + 1), List.mem_filter.mpr ⟨List.mem_iff_getElem.mpr ⟨O.idxOf b, ?_, ?_⟩, by simp⟩, rfl⟩
    · rw [List.length_zip, List.length_drop]; omega
    · rw [List.getElem_zip]
      have e1 := h.at_ix (show b < O.length by omega)
      have e2 := h.at_ix hlt
      simp only [hk] at e2
      rw [e1, List.getElem_drop]
      simp only [Nat.add_comm 1]
      rw [e2]
  · intro hb
    obtain ⟨p, hp, rfl⟩ := List.mem_map.mp hb
    obtain ⟨hp, e⟩ := List.mem_filter.mp hp
    have e := of_decide_eq_true e
    obtain ⟨i, hi, e2⟩ := List.mem_iff_getElem.mp hp
    rw [List.getElem_zip] at e2
    rw [List.length_zip, List.length_drop] at hi
    have i1 : i < O.length := by omega
    have i2 : i + 1 < O.length := by omega
    have e3 : p.1 = O[i] := by rw [← e2]
    have e4 : p.2 = O[i + 1] := by rw [← e2]; simp [Nat.add_comm 1]
    have b1 := h.lt (List.getElem_mem i2)
    refine List.mem_filter.mpr ⟨List.mem_range.mpr (by omega), decide_eq_true ?_⟩
    rw [← e, e4, e3, h.ix_at i1, h.ix_at i2]
theorem gt_mem {A : List Nat} {i : Nat} (h : i < A.length) : gt A i ∈ A := by rw [gt_eq h]; exact List.getElem_mem h
theorem zipD_N {A B : List Nat} : zipD (dN A) (dN B) = (A.zip B).map fun p => .tup [.int (p.1 : Nat), .int (p.2 : Nat)] := by
  unfold zipD dN
  rw [List.zip_map, List.map_map]
  rfl
/-- a block cut in two -/
def cutO (b : Nat) (x : Nat) : List Nat := if x = b then [b, b + 1] else [if b < x then x + 1 else x]
def splO (O : List Nat) (b : Nat) : List Nat := O.flatMap (cutO b)
def splL (L : List Nat) (b f : Nat) : List Nat := L.take b ++ [f, gt L b - f] ++ L.drop (b + 1)
theorem spl_rng {b : Nat} : ∀ n, (List.range n).flatMap (cutO b) = if n ≤ b then List.range n else List.range (n + 1)
  | 0 => by simp
  | n + 1 => by
    rw [List.range_succ, List.flatMap_append, spl_rng n]
    by_cases c : n + 1 ≤ b
    · rw [if_pos (by omega), if_pos c]
      unfold cutO
      simp
      rw [if_neg (by omega), if_neg (by omega)]
    · rw [if_neg c]
      by_cases c2 : n ≤ b
      · rw [if_pos c2]
        have : n = b := by omega
        subst this
        rw [List.range_succ, List.range_succ]
        unfold cutO
        simp
      · rw [if_neg c2, List.range_succ (n := n + 1)]
        unfold cutO
        simp
        rw [if_neg (by omega), if_pos (by omega)]
theorem splL_len {b f : Nat} (hb : b < L.length) : (splL L b f).length = L.length + 1 := by
  unfold splL; simp; omega
theorem IsX.split (h : IsX L O) {b f : Nat} (hb : b < O.length) (h1 : 0 < f) (h2 : f < gt L b) : IsX (splL L b f) (splO O b) ∧ (splO O b).length = O.length + 1 := by
  have hp : (splO O b).Perm (List.range (O.length + 1)) := by
    have := List.Perm.flatMap_right (cutO b) h.perm
    rw [spl_rng, if_neg (by omega)] at this
    exact this
  have hl : (splO O b).length = O.length + 1 := by rw [hp.length_eq, List.length_range]
  refine ⟨⟨by rw [splL_len (by rw [h.len]; exact hb), hl, h.len], by omega, by rw [hl]; exact hp, fun x hx => ?_⟩, hl⟩
  unfold splL at hx
  simp at hx
  rcases hx with hx | rfl | rfl | hx
  · exact h.pos x (List.mem_of_mem_take hx)
  · exact h1
  · omega
  · exact h.pos x (List.mem_of_mem_drop hx)
end

/-! ### how many, and which comes at a number -/
def cho : Nat → Nat → Nat
  | _, 0 => 1
  | 0, _ + 1 => 0
  | t + 1, s + 1 => cho t s + cho t (s + 1)
theorem cho_0 (t : Nat) : cho t 0 = 1 := by cases t <;> rfl
theorem cho_gt : ∀ (t s : Nat), t < s → cho t s = 0
  | 0, 0, h => by omega
  | 0, s + 1, _ => rfl
  | t + 1, 0, h => by omega
  | t + 1, s + 1, h => by show cho t s + cho t (s + 1) = 0; rw [cho_gt t s (by omega), cho_gt t (s + 1) (by omega)]
theorem cho_pos : ∀ (t s : Nat), s ≤ t → 0 < cho t s
  | t, 0, _ => by rw [cho_0]; decide
  | 0, s + 1, h => by omega
  | t + 1, s + 1, h => by show 0 < cho t s + cho t (s + 1); have := cho_pos t s (by omega); omega
theorem cho_mul : ∀ (t s : Nat), cho t (s + 1) * (s + 1) = cho t s * (t - s)
  | 0, 0 => rfl
  | 0, s + 1 => by simp [cho]
  | t + 1, 0 => by
    show (cho t 0 + cho t 1) * 1 = cho (t + 1) 0 * (t + 1 - 0)
    have := cho_mul t 0
    simp [cho_0] at this
    simp [cho_0, this]
    omega
  | t + 1, s + 1 => by
    show (cho t (s + 1) + cho t (s + 2)) * (s + 2) = (cho t s + cho t (s + 1)) * (t + 1 - (s + 1))
    have h1 := cho_mul t s
    have h2 := cho_mul t (s + 1)
    have e : t + 1 - (s + 1) = t - s := by omega
    rw [e, Nat.add_mul, Nat.add_mul, h2, ← h1, ← Nat.mul_add, ← Nat.mul_add]
    by_cases c : s + 1 ≤ t
    · congr 1; omega
    · by_cases c2 : t = s
      · subst c2
        rw [cho_gt t (t + 1) (by omega)]; simp
      · rw [cho_gt t (s + 1) (by omega)]; simp
/-! places in a list of lists -/
section
variable {α β : Type}
def lsum (g : Nat → List β) : Nat → Nat
  | 0 => 0
  | k + 1 => lsum g k + (g k).length
theorem fm_snoc (g : Nat → List β) (N : Nat) : (List.range (N + 1)).flatMap g = (List.range N).flatMap g ++ g N := by
  rw [List.range_succ, List.flatMap_append]; simp
theorem fm_len (g : Nat → List β) : ∀ N, ((List.range N).flatMap g).length = lsum g N
  | 0 => rfl
  | N + 1 => by rw [fm_snoc, List.length_append, fm_len g N]; rfl
theorem lsum_mono {g : Nat → List β} {a b : Nat} (h : a ≤ b) : lsum g a ≤ lsum g b := by
  induction b with
  | zero => rw [Nat.le_zero.mp h]; exact Nat.le_refl _
  | succ b ih =>
    by_cases c : a = b + 1
    · rw [c]; exact Nat.le_refl _
    · exact Nat.le_trans (ih (by omega)) (Nat.le_add_right _ _)
theorem fm_at (g : Nat → List β) {N f r : Nat} (hf : f < N) (hr : r < (g f).length) : ((List.range N).flatMap g)[lsum g f + r]? = (g f)[r]? := by
  induction N with
  | zero => omega
  | succ N ih =>
    rw [fm_snoc]
    by_cases c : f = N
    · subst c
      rw [List.getElem?_append_right (by rw [fm_len]; omega), fm_len]
      congr 1; omega
    · have h1 := ih (by omega)
      rw [List.getElem?_append_left, h1]
      have h2 : lsum g (f + 1) ≤ lsum g N := lsum_mono (by omega)
      have h3 : lsum g (f + 1) = lsum g f + (g f).length := rfl
      rw [fm_len]; omega
theorem fm_dec (g : Nat → List β) {N i : Nat} (h : i < ((List.range N).flatMap g).length) : ∃ f r, f < N ∧ r < (g f).length ∧ i = lsum g f + r := by
  induction N with
  | zero => simp at h
  | succ N ih =>
    rw [fm_snoc, List.length_append] at h
    by_cases c : i < ((List.range N).flatMap g).length
    · obtain ⟨f, r, h1, h2, h3⟩ := ih c
      exact ⟨f, r, by omega, h2, h3⟩
    · rw [fm_len] at c h
      exact ⟨N, i - lsum g N, by omega, by omega, by omega⟩
end
/-! lengths -/
def lens : Nat → Nat → List (List Nat)
  | 0, _ => []
  | 1, n => [[n]]
  | b + 2, n => (List.range (n - (b + 1))).flatMap fun f => (lens (b + 1) (n - (f + 1))).map ((f + 1) :: ·)
def lnG (b n : Nat) : Nat → List (List Nat) := fun f => (lens (b + 1) (n - (f + 1))).map ((f + 1) :: ·)
theorem lens_eq (b n : Nat) : lens (b + 2) n = (List.range (n - (b + 1))).flatMap (lnG b n) := rfl
theorem lens_len : ∀ (b n : Nat), 1 ≤ b → b ≤ n → (lens b n).length = cho (n - 1) (b - 1)
  | 0, _, h, _ => by omega
  | 1, n, _, _ => by rw [show (1 : Nat) - 1 = 0 from rfl, cho_0]; rfl
  | b + 2, n, _, h => by
    rw [lens_eq, fm_len]
    have go : ∀ k, k ≤ n - (b + 1) → lsum (lnG b n) k + cho (n - 1 - k) (b + 1) = cho (n - 1) (b + 1) := by
      intro k
      induction k with
      | zero => intro _; simp [lsum]
      | succ k ih =>
        intro hk
        have h1 := ih (by omega)
        have h2 := lens_len (b + 1) (n - (k + 1)) (by omega) (by omega)
        have h3 : (lnG b n k).length = cho (n - (k + 1) - 1) b := by unfold lnG; rw [List.length_map, h2]; rfl
        show lsum (lnG b n) k + (lnG b n k).length + _ = _
        have e1 : n - 1 - k = (n - 1 - (k + 1)) + 1 := by omega
        have e2 : n - (k + 1) - 1 = n - 1 - (k + 1) := by omega
        rw [e1] at h1
        have e3 : cho (n - 1 - (k + 1) + 1) (b + 1) = cho (n - 1 - (k + 1)) b + cho (n - 1 - (k + 1)) (b + 1) := rfl
        rw [e3] at h1
        rw [h3, e2]
        omega
    have h1 := go (n - (b + 1)) (Nat.le_refl _)
    rw [cho_gt (n - 1 - (n - (b + 1))) (b + 1) (by omega)] at h1
    show _ = cho (n - 1) (b + 1)
    omega
/-- how many begin with less -/
theorem lgt_sum {b n k : Nat} (hb : b + 2 ≤ n) (h : k ≤ n - (b + 1)) : lsum (lnG b n) k + cho (n - (k + 1)) (b + 1) = cho (n - 1) (b + 1) := by
  induction k with
  | zero => simp [lsum]
  | succ k ih =>
    have h1 := ih (by omega)
    have h2 := lens_len (b + 1) (n - (k + 1)) (by omega) (by omega)
    have h3 : (lnG b n k).length = cho (n - (k + 1) - 1) b := by unfold lnG; rw [List.length_map, h2]; rfl
    show lsum (lnG b n) k + (lnG b n k).length + _ = _
    have e1 : n - (k + 1) = (n - (k + 1 + 1)) + 1 := by omega
    have e2 : n - (k + 1) - 1 = n - (k + 1 + 1) := by omega
    rw [e1] at h1
    have e3 : cho (n - (k + 1 + 1) + 1) (b + 1) = cho (n - (k + 1 + 1)) b + cho (n - (k + 1 + 1)) (b + 1) := rfl
    rw [e3] at h1
    rw [h3, e2]
    omega
theorem lens_ok : ∀ (b n : Nat), 1 ≤ b → b ≤ n → ∀ r ∈ lens b n, r.length = b ∧ r.sum = n ∧ ∀ x ∈ r, 0 < x
  | 0, _, h, _, _, _ => by omega
  | 1, n, _, hn, r, h => by simp [lens] at h; subst h; simp; omega
  | b + 2, n, _, hn, r, h => by
    obtain ⟨f, hf, h⟩ := List.mem_flatMap.mp h
    obtain ⟨s, hs, rfl⟩ := List.mem_map.mp h
    have hf := List.mem_range.mp hf
    obtain ⟨h1, h2, h3⟩ := lens_ok (b + 1) (n - (f + 1)) (by omega) (by omega) s hs
    refine ⟨by simp [h1], by simp [h2]; omega, fun x hx => ?_⟩
    rcases List.mem_cons.mp hx with rfl | hx
    · omega
    · exact h3 x hx
theorem lex_cons {a : Nat} {x y : List Nat} (h : x < y) : a :: x < a :: y := List.cons_lt_cons_iff.mpr (.inr ⟨rfl, h⟩)
theorem lex_head {a b : Nat} {x y : List Nat} (h : a < b) : a :: x < b :: y := List.cons_lt_cons_iff.mpr (.inl h)
theorem lens_sorted : ∀ (b n : Nat), (lens b n).Pairwise (· < ·)
  | 0, _ => List.Pairwise.nil
  | 1, n => by simp [lens]
  | b + 2, n => by
    rw [lens_eq, List.pairwise_flatMap]
    refine ⟨fun f _ => ?_, ?_⟩
    · unfold lnG
      exact List.pairwise_map.mpr ((lens_sorted (b + 1) _).imp fun h => lex_cons h)
    · refine List.Pairwise.imp (fun {f g} h x hx y hy => ?_) (List.pairwise_lt_range)
      obtain ⟨s, _, rfl⟩ := List.mem_map.mp hx
      obtain ⟨t, _, rfl⟩ := List.mem_map.mp hy
      exact lex_head (by omega)
/-! orders -/
def wob (left : List Nat) (x : Nat) : List Nat := left.filter fun y => !decide (y = x)
def chc (st : Bool) (left : List Nat) (last : Int) : List Nat := left.filter fun y => !st || decide ((y : Int) ≠ last + 1)
def ords (st : Bool) : Nat → List Nat → Int → List (List Nat)
  | 0, _, _ => [[]]
  | m + 1, left, last => (chc st left last).flatMap fun x => (ords st m (wob left x) (x : Nat)).map (x :: ·)
theorem ords_sorted (st : Bool) : ∀ (m : Nat) (left : List Nat) (last : Int), left.Pairwise (· < ·) → (ords st m left last).Pairwise (· < ·)
  | 0, _, _, _ => by simp [ords]
  | m + 1, left, last, h => by
    show List.Pairwise _ ((chc st left last).flatMap fun x => (ords st m (wob left x) (x : Nat)).map (x :: ·))
    rw [List.pairwise_flatMap]
    refine ⟨fun f _ => ?_, ?_⟩
    · exact List.pairwise_map.mpr ((ords_sorted st m (wob left f) f (h.filter _)).imp fun h => lex_cons h)
    · refine List.Pairwise.imp (fun {f g} h x hx y hy => ?_) (h.filter _)
      obtain ⟨s, _, rfl⟩ := List.mem_map.mp hx
      obtain ⟨t, _, rfl⟩ := List.mem_map.mp hy
      exact lex_head h
/-- a flat list by the places of another -/
theorem fm_range {α β : Type} (xs : List α) (g : α → List β) (d : α) : xs.flatMap g = (List.range xs.length).flatMap fun k => g (xs[k]?.getD d) := by
  have : xs = (List.range xs.length).map fun k => xs[k]?.getD d := by
    apply List.ext_getElem?
    intro i
    by_cases c : i < xs.length
    · simp [c]
    · simp [c]
  conv => lhs; rw [this]
  rw [List.flatMap_map]

def chs (t : Nat) : Nat → Nat
  | 0 => 1
  | s + 1 => chs t s * (t - s) / (s + 1)
theorem chs_cho (t : Nat) : ∀ s, chs t s = cho t s
  | 0 => (cho_0 t).symm
  | s + 1 => by
    show chs t s * (t - s) / (s + 1) = _
    rw [chs_cho t s, ← cho_mul, Nat.mul_div_cancel _ (Nat.succ_pos s)]
def bin (t s : Nat) : Nat := if s ≤ t then chs t s else 0
theorem bin_cho (t s : Nat) : bin t s = cho t s := by
  unfold bin
  split
  · exact chs_cho t s
  · rw [cho_gt t s (by omega)]
def lgt (n b f : Nat) : Int := (bin (n - 1) (b - 1) : Nat) - (bin (n - f) (b - 1) : Nat)
theorem lgt_eq {b n k : Nat} (hb : b + 2 ≤ n) (h : k ≤ n - (b + 1)) : lgt n (b + 2) (k + 1) = (lsum (lnG b n) k : Nat) := by
  have := lgt_sum hb h
  unfold lgt
  rw [bin_cho, bin_cho, show b + 2 - 1 = b + 1 by omega]
  omega
/-- the index of lengths -/
def lix : List Nat → Int
  | [] => 0
  | a :: r => match r with
    | [] => 0
    | _ :: _ => lgt (a :: r).sum (a :: r).length a + lix r
theorem lix_cons {a x : Nat} {r : List Nat} : lix (a :: x :: r) = lgt (a :: x :: r).sum (a :: x :: r).length a + lix (x :: r) := rfl
theorem lix_at : ∀ (b n i : Nat) (L : List Nat), 1 ≤ b → b ≤ n → (lens b n)[i]? = some L → lix L = (i : Nat)
  | 0, _, _, _, h, _, _ => by omega
  | 1, n, i, L, _, _, h => by
    have hi : i = 0 := by have := (List.getElem?_eq_some_iff.mp h).1; simp [lens] at this; exact this
    subst hi
    simp [lens] at h
    subst h; rfl
  | b + 2, n, i, L, _, hn, h => by
    rw [lens_eq] at h
    obtain ⟨f, r, hf, hr, rfl⟩ := fm_dec (lnG b n) (List.getElem?_eq_some_iff.mp h).1
    rw [fm_at _ hf hr] at h
    unfold lnG at h hr
    rw [List.getElem?_map] at h
    obtain ⟨s, hs, rfl⟩ := Option.map_eq_some_iff.mp h
    have ih := lix_at (b + 1) (n - (f + 1)) r s (by omega) (by omega) hs
    obtain ⟨l1, l2, _⟩ := lens_ok (b + 1) (n - (f + 1)) (by omega) (by omega) s (List.mem_of_getElem? hs)
    cases s with
    | nil => simp at l1
    | cons x t =>
      rw [lix_cons, ih, show ((f + 1) :: x :: t).length = b + 2 by rw [List.length_cons, l1], show ((f + 1) :: x :: t).sum = n by rw [List.sum_cons, l2]; omega, lgt_eq hn (Nat.le_of_lt hf)]
      push_cast; omega
/-- where the lengths at an index begin -/
theorem lens_at {b n i f : Nat} (hb : b + 2 ≤ n) (hf : f < n - (b + 1)) (h1 : lgt n (b + 2) (f + 1) ≤ (i : Nat)) (h2 : ((i : Nat) : Int) < lgt n (b + 2) (f + 2)) :
    ∃ r : Nat, ((i : Nat) : Int) - lgt n (b + 2) (f + 1) = (r : Nat) ∧ r < (lens (b + 1) (n - (f + 1))).length ∧ ∀ s, (lens (b + 1) (n - (f + 1)))[r]? = some s → (lens (b + 2) n)[i]? = some ((f + 1) :: s) := by
  rw [lgt_eq hb (Nat.le_of_lt hf)] at h1 ⊢
  rw [lgt_eq hb (show f + 1 ≤ n - (b + 1) from hf)] at h2
  have e : lsum (lnG b n) (f + 1) = lsum (lnG b n) f + (lnG b n f).length := rfl
  have l : (lnG b n f).length = (lens (b + 1) (n - (f + 1))).length := by unfold lnG; rw [List.length_map]
  refine ⟨i - lsum (lnG b n) f, by omega, by omega, fun s hs => ?_⟩
  rw [lens_eq]
  have := fm_at (lnG b n) hf (r := i - lsum (lnG b n) f) (by omega)
  rw [show lsum (lnG b n) f + (i - lsum (lnG b n) f) = i by omega] at this
  rw [this]
  show ((lens (b + 1) (n - (f + 1))).map ((f + 1) :: ·))[_]? = _
  rw [List.getElem?_map, hs]; rfl
/-! places of orders -/
def ordG (st : Bool) (m : Nat) (left cs : List Nat) : Nat → List (List Nat) := fun k => (ords st m (wob left (gt cs k)) (gt cs k : Nat)).map (gt cs k :: ·)
theorem ords_eq (st : Bool) (m : Nat) (left : List Nat) (last : Int) : ords st (m + 1) left last = (List.range (chc st left last).length).flatMap (ordG st m left (chc st left last)) := fm_range (chc st left last) (fun x => (ords st m (wob left x) (x : Nat)).map (x :: ·)) 0
def ordS (st : Bool) (m : Nat) (left : List Nat) (xs : List Nat) : Nat := (xs.map fun x => (ords st m (wob left x) (x : Nat)).length).sum
theorem ordG_sum (st : Bool) (m : Nat) (left cs : List Nat) : ∀ k, k ≤ cs.length → lsum (ordG st m left cs) k = ordS st m left (cs.take k)
  | 0, _ => rfl
  | k + 1, h => by
    show lsum (ordG st m left cs) k + (ordG st m left cs k).length = _
    rw [ordG_sum st m left cs k (by omega), List.take_succ_eq_append_getElem h]
    unfold ordG ordS
    rw [List.map_append, List.sum_append, List.length_map, gt_eq h]
    simp
theorem ords_many (st : Bool) (m : Nat) (left : List Nat) (last : Int) : (ords st (m + 1) left last).length = ordS st m left (chc st left last) := by
  rw [ords_eq, fm_len, ordG_sum _ _ _ _ _ (Nat.le_refl _), List.take_length]
theorem sort_take {cs : List Nat} (h : cs.Pairwise (· < ·)) {k : Nat} (hk : k < cs.length) : (cs.filter fun y => decide (y < gt cs k)) = cs.take k := by
  have e : cs.take k ++ cs.drop k = cs := List.take_append_drop k cs
  have h0 := List.pairwise_iff_getElem.mp h
  have h1 : (cs.take k).filter (fun y => decide (y < gt cs k)) = cs.take k := by
    refine List.filter_eq_self.mpr fun y hy => decide_eq_true ?_
    obtain ⟨i, hi, rfl⟩ := List.mem_iff_getElem.mp hy
    rw [List.length_take] at hi
    rw [List.getElem_take, gt_eq hk]
    exact h0 _ _ _ _ (by omega)
  have h2 : (cs.drop k).filter (fun y => decide (y < gt cs k)) = [] := by
    refine List.filter_eq_nil_iff.mpr fun y hy => ?_
    obtain ⟨i, hi, rfl⟩ := List.mem_iff_getElem.mp hy
    rw [List.length_drop] at hi
    rw [List.getElem_drop, gt_eq hk, decide_eq_true_eq]
    by_cases c : i = 0
    · subst c; simp
    · have := h0 k (k + i) hk (by omega) (by omega)
      omega
  have : ∀ p : Nat → Bool, cs.filter p = (cs.take k).filter p ++ (cs.drop k).filter p := fun p => by conv => lhs; rw [← e, List.filter_append]
  rw [this, h1, h2, List.append_nil]
/-! all of them -/
def oL (b : Nat) (st : Bool) : List (List Nat) := ords st b (List.range b) (-2)
def exs (n b : Nat) (st : Bool) : List (List Nat × List Nat) := (lens b n).flatMap fun L => (oL b st).map fun O => (L, O)
theorem lsum_c {β : Type} {g : Nat → List β} {w : Nat} (h : ∀ k, (g k).length = w) : ∀ k, lsum g k = k * w
  | 0 => by simp [lsum]
  | k + 1 => by show lsum g k + _ = _; rw [lsum_c h k, h, Nat.add_mul, Nat.one_mul]
theorem exs_at {n b : Nat} {st : Bool} {i : Nat} {L O : List Nat} (h1 : (lens b n)[i / (oL b st).length]? = some L) (h2 : (oL b st)[i % (oL b st).length]? = some O) : (exs n b st)[i]? = some (L, O) := by
  have hw : 0 < (oL b st).length := by have := (List.getElem?_eq_some_iff.mp h2).1; omega
  unfold exs
  rw [fm_range (lens b n) _ []]
  have hl := (List.getElem?_eq_some_iff.mp h1).1
  have := fm_at (fun k => (oL b st).map fun O => ((lens b n)[k]?.getD [], O)) hl (r := i % (oL b st).length) (by rw [List.length_map]; exact Nat.mod_lt _ hw)
  rw [lsum_c (w := (oL b st).length) (fun k => List.length_map _), Nat.mul_comm, Nat.div_add_mod] at this
  rw [this, List.getElem?_map, h2, h1]
  rfl
theorem exs_len {n b : Nat} {st : Bool} : (exs n b st).length = (lens b n).length * (oL b st).length := by
  unfold exs
  rw [fm_range (lens b n) _ [], fm_len, lsum_c (w := (oL b st).length) (fun k => List.length_map _)]
theorem exs_next {n b : Nat} {st : Bool} {i : Nat} {L O L' O' : List Nat} (h : (exs n b st)[i]? = some (L, O)) (h' : (exs n b st)[i + 1]? = some (L', O')) : L < L' ∨ L = L' ∧ O < O' := by
  have sorted : (exs n b st).Pairwise fun x y => x.1 < y.1 ∨ x.1 = y.1 ∧ x.2 < y.2 := by
    unfold exs
    rw [List.pairwise_flatMap]
    refine ⟨fun L _ => List.pairwise_map.mpr ((ords_sorted st b _ _ List.pairwise_lt_range).imp fun h => .inr ⟨rfl, h⟩), ?_⟩
    refine (lens_sorted b n).imp fun {L L'} h x hx y hy => ?_
    obtain ⟨_, _, rfl⟩ := List.mem_map.mp hx
    obtain ⟨_, _, rfl⟩ := List.mem_map.mp hy
    exact .inl h
  obtain ⟨a1, a2⟩ := List.getElem?_eq_some_iff.mp h
  obtain ⟨b1, b2⟩ := List.getElem?_eq_some_iff.mp h'
  have := List.pairwise_iff_getElem.mp sorted i (i + 1) a1 b1 (by omega)
  rw [a2, b2] at this
  exact this
/-! the blocks that are left -/
def msk (m : Nat) : List Nat := (List.range 6).filter fun i => m.testBit i
def lsts : List Int := [-2, 0, 1, 2, 3, 4, 5]
theorem msk_all : ∀ b, b < 7 → List.range b = msk (2 ^ b - 1) := by decide +kernel
theorem msk_wob : ∀ m, m < 64 → ∀ x, x < 6 → x ∈ msk m → ∃ m', m' < 64 ∧ wob (msk m) x = msk m' ∧ (msk m').length + 1 = (msk m).length ∧ (x : Int) ∉ zN (msk m') := by decide +kernel
theorem msk_nd : ∀ m, m < 64 → (msk m).Nodup ∧ (msk m).length ≤ 6 ∧ ∀ x ∈ msk m, x < 6 := by decide +kernel
theorem msk_srt (m : Nat) : (msk m).Pairwise (· < ·) := List.pairwise_lt_range.filter _
theorem oL_ok : ∀ b, b < 7 → ∀ st : Bool, 0 < b → 0 < (oL b st).length ∧ ∀ O ∈ oL b st, O.length = b ∧ ((∀ x, x < b → x ∈ O) ∧ ∀ x ∈ O, x < b) ∧ O.Nodup := by decide +kernel
section
variable {L O : List Nat} {j : Nat} {P : D → Nat → Prop} {E : Ex → Nat → Prop}
theorem w_draw {k : Int} (hk : 0 < k) (hs : k ≤ 10 ^ 59) (hn : j < NMAX) (q : ∀ v : Nat, (v : Int) < k → P (.int (v : Nat)) (j + 1)) : WF drawF [.jar, .int k] j P E :=
  ⟨k, rfl, hk, sg_sm (sm_of (by omega) hs), hn, fun v v0 v1 => by
    obtain ⟨i, rfl⟩ := Int.eq_ofNat_of_zero_le v0
    exact q i v1⟩
theorem w_is_whole {p lo hi : Int} (q : P (.bl (decide (lo ≤ p ∧ p ≤ hi))) j) : WF F_p_is_whole [.int p, .int lo, .int hi] j P E := by
  refine a_run rfl ?_
  show f_p_is_whole [some (.int p), some (.int lo), some (.int hi)] j _ _
  simp [f_p_is_whole]
  by_cases c : lo ≤ p
  · refine .inr ⟨c, ?_⟩
    have e : decide (lo ≤ p ∧ p ≤ hi) = decide (p ≤ hi) := by simp [c]
    rw [e] at q; exact q
  · refine .inl ⟨by omega, ?_⟩
    have e : decide (lo ≤ p ∧ p ≤ hi) = false := by simp [c]
    rw [e] at q; exact q

theorem dN_tail {A : List Nat} : (dN A).tail = dN (A.drop 1) := by rw [← List.drop_one, dN_drop]
theorem w_kept_blocks (h : IsX L O) (hk : O.length ≤ 1000) (q : P (tN (kpt O)) j) : WF F_p_kept_blocks [exD L O] j P E := by
  refine a_run rfl ?_
  show f_p_kept_blocks [some (exD L O), none, none, none] j _ _
  have hL := LN
  have hM := LM
  simp [f_p_kept_blocks]
  rw [dN_tail, zipD_N]
  refine ⟨by simp; omega, ?_⟩
  refine wC_filter (fun p : Nat × Nat => decide (p.2 = p.1 + 1)) (fun p => .int (p.1 : Nat)) (fun x hx => ⟨_, rfl, ?_, ?_⟩) ?_
  · simp
    constructor <;> intro e <;> omega
  · intro _; simp
  · have e : ((O.zip (O.drop 1)).filter fun p => decide (p.2 = p.1 + 1)).map (fun p => D.int (p.1 : Nat)) = dN (((O.zip (O.drop 1)).filter fun p => decide (p.2 = p.1 + 1)).map Prod.fst) := by unfold dN; rw [List.map_map]; rfl
    rw [e, sort_lN h.kpt_perm kpt_sorted]
    simp
    exact q
end

section
variable {j : Nat} {P : D → Nat → Prop} {E : Ex → Nat → Prop}
/-! ### numbers -/
theorem gt_range {n i : Nat} (h : i < n) : gt (List.range n) i = i := by unfold gt; simp [h]
def fct : Nat → Nat
  | 0 => 1
  | k + 1 => fct k * (k + 1)
theorem chs_le (t : Nat) : ∀ s, chs t s ≤ t ^ s
  | 0 => Nat.le_refl _
  | s + 1 => by
    show chs t s * (t - s) / (s + 1) ≤ t ^ s * t
    exact Nat.le_trans (Nat.div_le_self _ _) (Nat.mul_le_mul (chs_le t s) (Nat.sub_le _ _))
/-- bounds that the walks need -/
structure Bn (t s : Nat) : Prop where
  ht : t ≤ 10 ^ 12
  hs : s ≤ 20
  c : ∀ i, i < s → chs t i ≤ 10 ^ 190
theorem sg_of {i : Int} (h1 : -(10 ^ 199) ≤ i) (h2 : i ≤ 10 ^ 199) : sg i = true := sg_iff.mpr ⟨by omega, by omega⟩
theorem chs_step {t i : Nat} (h : chs t i ≤ 10 ^ 190) (ht : t ≤ 10 ^ 12) (hi : i < t + 1) (hs : i ≤ 20) :
    ∃ z, mulD (.int (chs t i : Nat)) (.int ((t : Int) - (i : Nat))) = some z ∧ fdivD z (.int ((i : Nat) + 1)) = some (.int (chs t (i + 1) : Nat)) := by
  have e1 : ((t : Nat) : Int) - (i : Nat) = ((t - i : Nat) : Int) := by omega
  have e2 : ((i : Nat) : Int) + 1 = ((i + 1 : Nat) : Int) := by push_cast; rfl
  rw [e1, e2]
  refine ⟨_, mul_g (sg_of (by omega) (by omega)) (sg_of (by omega) (by omega)), ?_⟩
  rw [div_i (by omega) (sm_of (by omega) (by omega)), ← Int.natCast_mul]
  rfl
theorem w_binomial {t s : Nat} (b : Bn t s) (q : P (.int (if s ≤ t then chs t s else 0 : Nat)) j) : WF F_p_binomial [.int (t : Nat), .int (s : Nat)] j P E := by
  have ht := b.ht
  have hs := b.hs
  refine a_run rfl ?_
  show f_p_binomial [some (.int (t : Nat)), some (.int (s : Nat)), none, none] j _ _
  have hL := LN
  have hM := LM
  simp [f_p_binomial]
  by_cases c : s ≤ t
  · rw [if_pos c] at q
    refine .inr ⟨c, _, mul_i (sm_of (by omega) (by omega)) (sm_of (by decide) (by decide)), ?_⟩
    rw [Int.mul_one]
    simp
    refine ⟨by omega, by omega, ?_⟩
    refine wL_inv (fun k m j' => j' = j ∧ k ≤ s ∧ ∃ x, Is m [some (.int (t : Nat)), some (.int (s : Nat)), some (.int (chs t k : Nat)), x]) ⟨rfl, Nat.zero_le _, none, rfl⟩ ?_ ?_
    · rintro k d m j' hd ⟨rfl, hk, x, rfl⟩
      obtain ⟨hlt, rfl⟩ := dN_at (O := List.range s) (by rw [← rng_N]; exact hd)
      rw [List.length_range] at hlt
      rw [gt_range hlt]
      obtain ⟨z, e1, e2⟩ := chs_step (b.c k hlt) ht (by omega) (by omega)
      refine ⟨_, rfl, ?_⟩
      simp [e1, e2]
      exact ⟨by omega, _, rfl⟩
    · rintro m j' ⟨rfl, hk, x, rfl⟩
      rw [rng_N, dN_len, List.length_range]
      simp
      exact q
  · rw [if_neg c] at q
    refine .inl ⟨by omega, _, mul_i (sm_of (by omega) (by omega)) (sm_of (by decide) (by decide)), ?_⟩
    rw [Int.mul_zero]
    simp
    refine ⟨by omega, ?_⟩
    refine wL_inv (fun k m j' => j' = j ∧ ∃ x, Is m [some (.int (t : Nat)), some (.int (s : Nat)), some (.int 0), x]) ⟨rfl, none, rfl⟩ ?_ ?_
    · rintro k d m j' hd ⟨rfl, x, rfl⟩
      simp [rngD] at hd
    · rintro m j' ⟨rfl, x, rfl⟩
      simp
      exact q
theorem w_factorial {k : Nat} (hk : k ≤ 8) (q : P (.int (fct k : Nat)) j) : WF F_p_factorial [.int (k : Nat)] j P E := by
  refine a_run rfl ?_
  show f_p_factorial [some (.int (k : Nat)), none, none] j _ _
  have hL := LN
  have hM := LM
  have fb : ∀ i, i < 9 → fct i ≤ 10 ^ 9 := by decide
  simp [f_p_factorial]
  refine ⟨by omega, by omega, ?_⟩
  refine wL_inv (fun i m j' => j' = j ∧ i ≤ k ∧ ∃ x, Is m [some (.int (k : Nat)), some (.int (fct i : Nat)), x]) ⟨rfl, Nat.zero_le _, none, rfl⟩ ?_ ?_
  · rintro i d m j' hd ⟨rfl, hi, x, rfl⟩
    obtain ⟨hlt, rfl⟩ := dN_at (O := List.range k) (by rw [← rng_N]; exact hd)
    rw [List.length_range] at hlt
    rw [gt_range hlt]
    have f1 := fb i (by omega)
    have e2 : ((i : Nat) : Int) + 1 = ((i + 1 : Nat) : Int) := by push_cast; rfl
    have em : mulD (.int (fct i : Nat)) (.int ((i : Nat) + 1)) = some (.int (fct (i + 1) : Nat)) := by
      rw [e2, mul_i (sm_of (by omega) (by omega)) (sm_of (by omega) (by omega)), ← Int.natCast_mul]; rfl
    refine ⟨_, rfl, ?_⟩
    simp [em]
    exact ⟨by omega, _, rfl⟩
  · rintro m j' ⟨rfl, hi, x, rfl⟩
    rw [rng_N, dN_len, List.length_range]
    simp
    exact q
end
section
variable {j : Nat} {P : D → Nat → Prop} {E : Ex → Nat → Prop}
/-! ### orders -/
def oD (b : Nat) (st : Bool) : D := .ins 0 [("blocks", tN (List.range b)), ("standard", .bl st)]
def sgn : Nat → Int
  | 0 => 1
  | k + 1 => -(sgn k)
def wsum (m l : Nat) : Nat → Int
  | 0 => 0
  | k + 1 => wsum m l k + sgn k * (bin m k : Nat) * (fct (l - k) : Nat)
/-- the pairs that may stand together -/
def prs (left : List Nat) (last : Int) : List Int := (last :: zN left).filter fun z => decide (z + 1 ∈ zN left)
def wyv (st : Bool) (left : List Nat) (last : Int) : Int := wsum (prs left last).length left.length (if st then (prs left last).length + 1 else 1)
theorem sgn_b : ∀ k, sgn k = 1 ∨ sgn k = -1
  | 0 => .inl rfl
  | k + 1 => by
    show -(sgn k) = 1 ∨ -(sgn k) = -1
    rcases sgn_b k with h | h <;> rw [h] <;> decide
theorem w_mkO {b : Nat} {st : Bool} {P : D → Prop} {E : Ex → Prop} (hb : b ≤ 8) (q : P (oD b st)) : WM 0 F_Orders___init__ [.int (b : Nat), .bl st] P E := by
  intro a
  refine a_run rfl ?_
  show f_Orders___init__ [some (.obj a), some (.int (b : Nat)), some (.bl st)] _ _ _
  have hL := LN
  have hM := LM
  simp [f_Orders___init__, Ob.put, putFld]
  refine ⟨by omega, by omega, by rw [rngD_length]; omega, ?_⟩
  rw [rng_N]
  exact q
theorem in_tZ {O : List Nat} {i : Int} : inD (.int i) (tN O) = some (.bl (decide (i ∈ zN O))) := by
  unfold inD
  show (match inB (.int i) (.tup (dN O)) with | some b => some (D.bl b) | none => none) = _
  rw [dN_z, inB_t]
theorem o_st {b : Nat} {st : Bool} {j : Nat} {P : D → Nat → Prop} (h : P (.bl st) j) : atP 0 "standard" (oD b st) P j := ⟨_, _, rfl, rfl, h⟩
theorem o_bl {b : Nat} {st : Bool} {j : Nat} {P : D → Nat → Prop} (h : P (tN (List.range b)) j) : atP 0 "blocks" (oD b st) P j := ⟨_, _, rfl, rfl, h⟩
theorem a_astar {fa : Ev Nat} {fr : Av Nat} {m : Sd} {P : List D → Nat → Prop} {E : XP Nat} : aStar fa fr m j P E = fa m j (fun x j1 => ∃ xs, seqT x = some xs ∧ fr m j1 (fun ys j2 => P (xs ++ ys) j2) E) E := rfl
theorem prs_le {left : List Nat} {last : Int} (nd : left.Nodup) (hl : last ∉ zN left) : (prs left last).length ≤ left.length := by
  have n1 : (last :: zN left).Nodup := List.nodup_cons.mpr ⟨hl, by unfold zN; exact List.pairwise_map.mpr (nd.imp fun {a b} h e => h (by omega))⟩
  have n2 : (prs left last).Nodup := n1.filter _
  have n3 : ((prs left last).map (· + 1)).Nodup := List.pairwise_map.mpr (n2.imp fun {a b} h e => h (by omega))
  have := List.Nodup.length_le_of_subset n3 (l₂ := zN left) fun z hz => by
    obtain ⟨x, hx, rfl⟩ := List.mem_map.mp hz
    exact of_decide_eq_true (List.mem_filter.mp hx).2
  rw [List.length_map] at this
  unfold zN at this
  rwa [List.length_map] at this
theorem w_ways {b : Nat} {st : Bool} {left : List Nat} {last : Int} (nd : left.Nodup) (hl : last ∉ zN left) (h8 : left.length ≤ 8) (q : P (.int (wyv st left last)) j) : WF F_Orders_ways [oD b st, tN left, .int last] j P E := by
  refine a_run rfl ?_
  show f_Orders_ways [some (oD b st), some (tN left), some (.int last), none, none, none, none, none] j _ _
  have hL := LN
  have hM := LM
  have pl := prs_le nd hl
  simp only [f_Orders_ways]
  have za : D.int last :: dN left = ((last :: zN left).map D.int) := by unfold zN dN; simp
  simp [a_astar, seqT]
  refine ⟨by omega, ?_⟩
  rw [za]
  refine wC_filter (L := last :: zN left) (c := D.int) (fun z => decide (z + 1 ∈ zN left)) D.int (fun z hz => ⟨_, rfl, ?_, fun _ => ?_⟩) ?_
  · simp [in_tZ]
  · simp
  unfold wyv at q
  have ep : (last :: zN left).filter (fun z => decide (z + 1 ∈ zN left)) = prs left last := rfl
  rw [ep]
  generalize prs left last = pr at *
  simp
  have bw : ∀ m, m < 9 → ∀ k, k < 10 → bin m k ≤ 10 ^ 9 := by decide
  have bf : ∀ k, k < 9 → fct k ≤ 10 ^ 9 := by decide
  have bB : ∀ k, k ≤ pr.length → Bn pr.length k := fun k hk => ⟨by omega, by omega, fun i hi => Nat.le_trans (chs_le _ _) (Nat.le_trans (Nat.pow_le_pow_left (show pr.length ≤ 8 by omega) i) (Nat.le_trans (Nat.pow_le_pow_right (by omega) (show i ≤ 8 by omega)) (by decide)))⟩
  obtain ⟨n, e1, hn⟩ : ∃ n : Nat, (∃ z, intB [.bl st] = some z ∧ ∃ z1, mulD z (.int (pr.length : Nat)) = some z1 ∧ addD z1 (.int 1) = some (.int (n : Nat))) ∧ n = if st then pr.length + 1 else 1 := by
    cases st with
    | true => exact ⟨pr.length + 1, ⟨.int 1, rfl, _, mul_i (by decide) (sm_of (by omega) (by omega)), by rw [add_i, Int.one_mul]; push_cast; rfl⟩, rfl⟩
    | false => exact ⟨1, ⟨.int 0, rfl, _, mul_i (by decide) (sm_of (by omega) (by omega)), by rw [add_i, Int.zero_mul]; rfl⟩, rfl⟩
  obtain ⟨z, a1, z1, a2, a3⟩ := e1
  have nb : n ≤ pr.length + 1 := by rw [hn]; split <;> omega
  refine ⟨by omega, o_st ⟨z, a1, z1, a2, _, a3, (n : Nat), rfl, by omega, by omega, ?_⟩⟩
  rw [Int.toNat_natCast]
  refine wL_inv (fun k m j' => j' = j ∧ k ≤ n ∧ ∃ x, Is m [some (oD b st), some (tN left), some (.int last), some (.lst (pr.map D.int)), some (.int (wsum pr.length left.length k)), some (.int (sgn k)), x, none]) ⟨rfl, Nat.zero_le _, none, rfl⟩ ?_ ?_
  · rintro k d m j' hd ⟨rfl, hk, x, rfl⟩
    obtain ⟨hlt, rfl⟩ := dN_at (O := List.range n) (by rw [← rng_N]; exact hd)
    rw [List.length_range] at hlt
    rw [gt_range hlt]
    refine ⟨_, rfl, ?_⟩
    simp
    refine w_binomial (t := pr.length) (s := k) (bB k (by omega)) ?_
    have b1 := bw pr.length (by omega) k (by omega)
    have b2 := bf (left.length - k) (by omega)
    have eb : (if k ≤ pr.length then chs pr.length k else 0) = bin pr.length k := rfl
    have es : ((left.length : Nat) : Int) - (k : Nat) = ((left.length - k : Nat) : Int) := by omega
    rw [eb]
    refine ⟨_, mul_i (by rcases sgn_b k with h | h <;> rw [h] <;> decide) (sm_of (by omega) (by omega)), _, rfl, ?_⟩
    simp
    rw [es]
    refine w_factorial (by omega) ?_
    refine ⟨_, mul_i ?_ (sm_of (by omega) (by omega)), ?_⟩
    · rcases sgn_b k with h | h <;> rw [h] <;> exact sm_of (by omega) (by omega)
    · simp
      exact ⟨by omega, _, rfl⟩
  · rintro m j' ⟨rfl, hk, x, rfl⟩
    rw [rng_N, dN_len, List.length_range]
    simp
    rw [hn]
    exact q
theorem w_count_o {b : Nat} {st : Bool} (hb : b ≤ 8) (q : P (.int (wyv st (List.range b) (-2))) j) : WF F_Orders_count [oD b st] j P E := by
  refine a_run rfl ?_
  show f_Orders_count [some (oD b st)] j _ _
  have hq : noP 0 "ways" (oD b st) := ⟨_, rfl, rfl⟩
  have hl : (-2 : Int) ∉ zN (List.range b) := fun h => by
    obtain ⟨n, _, e⟩ := mem_z.mp h
    omega
  simp [f_Orders_count, hq]
  exact o_bl (w_ways List.nodup_range hl (by simpa using hb) q)
end
section
variable {j : Nat} {P : D → Nat → Prop} {E : Ex → Nat → Prop}
/-! ### choices -/
theorem w_without {left : List Nat} {x : Nat} (h : left.length ≤ 100) (q : P (tN (wob left x)) j) : WF F_p_without_block [tN left, .int (x : Nat)] j P E := by
  refine a_run rfl ?_
  show f_p_without_block [some (tN left), some (.int (x : Nat)), none] j _ _
  have hL := LN
  simp [f_p_without_block]
  refine ⟨by omega, ?_⟩
  refine wC_NF (O := left) (fun y => !decide (y = x)) (fun y => .int (y : Nat)) (fun y hy => ⟨_, rfl, ?_, fun _ => ?_⟩) ?_
  · simp
    omega
  · simp
  · simp
    exact q
theorem w_choices {b : Nat} {st : Bool} {left : List Nat} {last : Int} (h : left.length ≤ 100) (q : P (lN (chc st left last)) j) : WF F_Orders_choices [oD b st, tN left, .int last] j P E := by
  refine a_run rfl ?_
  show f_Orders_choices [some (oD b st), some (tN left), some (.int last), none] j _ _
  have hL := LN
  simp [f_Orders_choices]
  refine ⟨by omega, ?_⟩
  refine wC_NF (O := left) (fun y => !st || decide ((y : Int) ≠ last + 1)) (fun y => .int (y : Nat)) (fun y hy => ⟨_, rfl, ?_, fun _ => ?_⟩) ?_
  · simp
    refine o_st ?_
    cases st with
    | false => simp [truD]
    | true => simp [truD]; exact Classical.em _
  · simp
  · exact q
end
section
variable {j : Nat} {P : D → Nat → Prop} {E : Ex → Nat → Prop}
/-! ### lengths -/
theorem chs_84 {t s : Nat} (ht : t ≤ 10 ^ 12) (hs : s ≤ 7) : chs t s ≤ 10 ^ 84 := by
  have c1 : chs t s ≤ (10 ^ 12) ^ s := Nat.le_trans (chs_le _ _) (Nat.pow_le_pow_left ht _)
  have c2 : (10 ^ 12) ^ s ≤ (10 ^ 12) ^ 7 := Nat.pow_le_pow_right (by decide) hs
  have c3 : (10 ^ 12) ^ 7 ≤ 10 ^ 84 := by decide
  exact Nat.le_trans c1 (Nat.le_trans c2 c3)
theorem bn_84 {t s : Nat} (ht : t ≤ 10 ^ 12) (hs : s ≤ 7) : Bn t s := ⟨ht, by omega, fun i hi => Nat.le_trans (chs_84 ht (by omega)) (Nat.pow_le_pow_right (by decide) (by decide))⟩
theorem bin_84 {t s : Nat} (ht : t ≤ 10 ^ 12) (hs : s ≤ 7) : bin t s ≤ 10 ^ 84 := by
  unfold bin
  split
  · exact chs_84 ht hs
  · exact Nat.zero_le _
theorem w_lighter {n b f : Nat} (hn : 1 ≤ n) (hN : n ≤ 10 ^ 12) (hb : 1 ≤ b) (h8 : b ≤ 8) (hf : f ≤ n) (q : P (.int (lgt n b f)) j) : WF F_p_lighter_lengths [.int (n : Nat), .int (b : Nat), .int (f : Nat)] j P E := by
  refine a_run rfl ?_
  show f_p_lighter_lengths [some (.int (n : Nat)), some (.int (b : Nat)), some (.int (f : Nat))] j _ _
  have e1 : ((n : Nat) : Int) - 1 = ((n - 1 : Nat) : Int) := by omega
  have e2 : ((b : Nat) : Int) - 1 = ((b - 1 : Nat) : Int) := by omega
  have e3 : ((n : Nat) : Int) - (f : Nat) = ((n - f : Nat) : Int) := by omega
  simp [f_p_lighter_lengths]
  rw [e1, e2]
  refine w_binomial (bn_84 (by omega) (by omega)) ?_
  rw [show (if b - 1 ≤ n - 1 then chs (n - 1) (b - 1) else 0) = bin (n - 1) (b - 1) from rfl]
  refine ⟨_, rfl, _, rfl, _, rfl, _, rfl, _, rfl, ?_⟩
  rw [e2, e3]
  refine w_binomial (bn_84 (by omega) (by omega)) ?_
  rw [show (if b - 1 ≤ n - f then chs (n - f) (b - 1) else 0) = bin (n - f) (b - 1) from rfl]
  exact ⟨_, rfl, q⟩
def B85 : Int := 10 ^ 85
end
section
variable {j : Nat} {P : D → Nat → Prop} {E : Ex → Nat → Prop}
/-! ### lengths and their index -/
theorem w_lix_f : ∀ (m : Nat) (L : List Nat), 1 ≤ L.length → L.length ≤ m → L.length ≤ 8 → (∀ x ∈ L, 0 < x) → L.sum ≤ 10 ^ 12 → ∀ {j : Nat} {P : D → Nat → Prop} {E : Ex → Nat → Prop}, P (.int (lix L)) j → WF (recF 1 1 f_p_lengths_index m) [tN L] j P E := fun m => by
  induction m with
  | zero => intro L h1 h2; omega
  | succ m ih =>
    intro L h1 h2 h8 hp hs j P E q
    refine a_run (s := f_p_lengths_index (recF 1 1 f_p_lengths_index m)) (k := 1) (n := 1) rfl ?_
    show f_p_lengths_index _ [some (tN L)] j _ _
    have hL := LN
    have mo : MoF (recF 1 1 f_p_lengths_index m) := mo_rec (fun _ _ => inferInstance) m
    simp [f_p_lengths_index]
    cases L with
    | nil => simp at h1
    | cons a r =>
      by_cases c : (a :: r).length = 1
      · refine .inr ⟨by omega, ?_⟩
        cases r with
        | nil => exact q
        | cons x t => simp at c
      · refine .inl ⟨by omega, ?_⟩
        rw [List.sum_cons] at hs
        rw [List.length_cons] at c h2 h8
        have hr1 : 1 ≤ r.length := by omega
        have ha := hp a (by simp)
        have ix : idxD (tN (a :: r)) (.int 0) = some (.int (a : Nat)) := ix_t (O := a :: r) (i := 0) (by simp)
        have es : ((a : Nat) : Int) + ((r.sum : Nat) : Int) = (((a :: r).sum : Nat) : Int) := by rw [List.sum_cons]; push_cast; rfl
        have el : ((r.length : Nat) : Int) + 1 = (((a :: r).length : Nat) : Int) := by rw [List.length_cons]; push_cast; rfl
        have eq0 : lix (a :: r) = lgt (a :: r).sum (a :: r).length a + lix r := by
          cases r with
          | nil => simp at hr1
          | cons x t => exact lix_cons
        rw [eq0] at q
        simp
        refine ⟨_, ix, ?_⟩
        rw [es, el]
        refine w_lighter (by rw [List.sum_cons]; omega) (by rw [List.sum_cons]; omega) (by rw [List.length_cons]; omega) (by rw [List.length_cons]; omega) (by rw [List.sum_cons]; omega) ?_
        refine ⟨_, rfl, _, rfl, _, rfl, ?_⟩
        rw [cut_drop1, dN_drop]
        show WF _ [tN r] _ _ _
        exact ih r hr1 (by omega) (by omega) (fun x hx => hp x (by simp [hx])) (by omega) ⟨_, rfl, q⟩
theorem w_lat_f : ∀ (m b n i : Nat), 1 ≤ b → b ≤ m → b ≤ 8 → b ≤ n → n ≤ 10 ^ 12 → i < (lens b n).length → ∀ {j : Nat} {P : D → Nat → Prop} {E : Ex → Nat → Prop}, (∀ L, (lens b n)[i]? = some L → P (tN L) j) → WF (recF 6 3 f_p_lengths_at m) [.int (n : Nat), .int (b : Nat), .int (i : Nat)] j P E := fun m => by
  induction m with
  | zero => intro b n i h1 h2; omega
  | succ m ih =>
    intro b n i h1 h2 h8 h3 hN hi j P E q
    refine a_run (s := f_p_lengths_at (recF 6 3 f_p_lengths_at m)) (k := 6) (n := 3) rfl ?_
    show f_p_lengths_at _ [some (.int (n : Nat)), some (.int (b : Nat)), some (.int (i : Nat)), none, none, none] j _ _
    have hL := LN
    have mo : MoF (recF 6 3 f_p_lengths_at m) := mo_rec (fun _ _ => inferInstance) m
    simp [f_p_lengths_at]
    by_cases c : b = 1
    · subst c
      have i0 : i = 0 := by simp [lens] at hi; exact hi
      subst i0
      exact .inr ⟨by omega, by omega, q [n] rfl⟩
    · refine .inl ⟨by omega, ?_⟩
      have eh : ((n : Nat) : Int) - (b : Nat) + 1 = ((n - b + 1 : Nat) : Int) := by omega
      rw [eh]
      obtain ⟨b, rfl⟩ : ∃ b', b = b' + 2 := ⟨b - 2, by omega⟩
      have g0 : lgt n (b + 2) (0 + 1) = ((lsum (lnG b n) 0 : Nat) : Int) := lgt_eq h3 (by omega)
      have g1 : lgt n (b + 2) (n - (b + 1) + 1) = ((lens (b + 2) n).length : Nat) := by rw [lgt_eq h3 (Nat.le_refl _), lens_eq, fm_len]
      refine wH_inv (fun k m' j' => j' = j ∧ ∃ (lo hi : Nat) (x : Option D), 1 ≤ lo ∧ lo ≤ hi ∧ hi ≤ n - (b + 2) + 1 ∧ hi - lo = k ∧ lgt n (b + 2) lo ≤ (i : Nat) ∧ ((i : Nat) : Int) < lgt n (b + 2) (hi + 1) ∧ m' = [some (.int (n : Nat)), some (.int ((b + 2 : Nat) : Int)), some (.int (i : Nat)), some (.int (lo : Nat)), some (.int (hi : Nat)), x]) (n - (b + 2) + 1 - 1) ⟨rfl, 1, n - (b + 2) + 1, none, by omega, by omega, by omega, rfl, by rw [g0]; simp [lsum], by rw [show n - (b + 2) + 1 + 1 = n - (b + 1) + 1 by omega, g1]; omega, rfl⟩ ?_
      rintro k m' j' ⟨rfl, lo, hi, x, l1, l2, l3, rfl, l4, l5, rfl⟩
      by_cases cl : lo < hi
      · have em : fdivD (.int (((lo : Nat) : Int) + (hi : Nat) + 1)) (.int 2) = some (.int ((lo + hi + 1) / 2 : Nat)) := by
          rw [div_i (by decide) (by decide)]
          congr 2
        obtain ⟨md, hmd⟩ : ∃ md, md = (lo + hi + 1) / 2 := ⟨_, rfl⟩
        rw [← hmd] at em
        have m1 : lo < md := by omega
        have m2 : md ≤ hi := by omega
        simp [cl, em]
        refine w_lighter (b := b + 2) (by omega) hN (by omega) h8 (by omega) ?_
        refine ⟨_, rfl, ?_⟩
        have e1 : leD (.int (lgt n (b + 2) md)) (.int (i : Nat)) = some (.bl (decide (lgt n (b + 2) md ≤ (i : Nat)))) := by simp
        refine ⟨_, e1, _, rfl, ?_⟩
        by_cases c2 : lgt n (b + 2) md ≤ (i : Nat)
        · rw [if_pos (decide_eq_true c2)]
          exact ⟨_, rfl, hi - md, by omega, rfl, md, hi, _, by omega, m2, l3, rfl, c2, l5, rfl⟩
        · rw [if_neg (by simp [c2])]
          have e5 : ((md : Nat) : Int) - 1 = ((md - 1 : Nat) : Int) := by omega
          refine ⟨_, rfl, _, rfl, ?_⟩
          rw [e5]
          refine ⟨md - 1 - lo, by omega, rfl, lo, md - 1, _, l1, by omega, by omega, rfl, l4, ?_, rfl⟩
          rw [show md - 1 + 1 = md by omega]
          omega
      · simp [cl]
        have e6 : ((n : Nat) : Int) - (lo : Nat) = ((n - lo : Nat) : Int) := by omega
        have e7 : ((b : Nat) : Int) + 2 - 1 = ((b + 1 : Nat) : Int) := by omega
        have elo : hi = lo := by omega
        subst elo
        obtain ⟨f, rfl⟩ : ∃ f, hi = f + 1 := ⟨hi - 1, by omega⟩
        obtain ⟨r, r1, r2, r3⟩ := lens_at (i := i) h3 (show f < n - (b + 1) by omega) l4 l5
        refine ⟨by omega, ?_⟩
        refine w_lighter (b := b + 2) (by omega) hN (by omega) h8 (by omega) ?_
        refine ⟨_, rfl, ?_⟩
        rw [r1]
        first | rw [e6, e7] | skip
        refine ih (b + 1) (n - (f + 1)) r (by omega) (by omega) (by omega) (by omega) (by omega) r2 fun s hs => ?_
        have sl := lens_ok (b + 1) (n - (f + 1)) (by omega) (by omega) s (List.mem_of_getElem? hs)
        exact ⟨_, add_t (by simp [sl.1]; omega), q _ (r3 s hs)⟩
end
section
variable {j : Nat} {P : D → Nat → Prop} {E : Ex → Nat → Prop}
/-! ### orders and their index -/
theorem msk_sum : ∀ m, m < 64 → msk m ≠ [] → ∀ l ∈ lsts, l ∉ zN (msk m) → ∀ st : Bool, wyv st (msk m) l = ((chc st (msk m) l).map fun x => wyv st (wob (msk m) x) (x : Nat)).sum := by decide +kernel
theorem chc_sub {st : Bool} {left : List Nat} {last : Int} {x : Nat} (h : x ∈ chc st left last) : x ∈ left := (List.mem_filter.mp h).1
theorem lsts_of : ∀ x, x < 6 → ((x : Nat) : Int) ∈ lsts := by decide
theorem sum_cast {α : Type} {f : α → Int} {g : α → Nat} : ∀ {xs : List α}, (∀ x ∈ xs, f x = (g x : Nat)) → (xs.map f).sum = (((xs.map g).sum : Nat) : Int)
  | [], _ => rfl
  | x :: xs, h => by
    rw [List.map_cons, List.map_cons, List.sum_cons, List.sum_cons, h x (by simp), sum_cast fun y hy => h y (by simp [hy])]
    push_cast; rfl
theorem wyv_ords : ∀ (k m : Nat) (l : Int) (st : Bool), m < 64 → (msk m).length = k → l ∈ lsts → l ∉ zN (msk m) → wyv st (msk m) l = ((ords st k (msk m) l).length : Nat)
  | 0, m, l, st, hm, hk, hl, hz => by
    rw [List.length_eq_zero_iff.mp hk]
    have : ∀ l ∈ lsts, ∀ st : Bool, wyv st [] l = 1 := by decide
    rw [this l hl st]; rfl
  | k + 1, m, l, st, hm, hk, hl, hz => by
    have ne : msk m ≠ [] := fun e => by rw [e] at hk; cases hk
    rw [msk_sum m hm ne l hl hz st, ords_many]
    unfold ordS
    refine sum_cast fun x hx => ?_
    have hx := chc_sub hx
    have x6 := (msk_nd m hm).2.2 x hx
    obtain ⟨m', a1, a2, a3, a4⟩ := msk_wob m hm x x6 hx
    rw [a2]
    exact wyv_ords k m' x st a1 (by omega) (lsts_of x x6) a4
def Chn (G : Nat → List (List Nat)) (cs : List Nat) (i k : Nat) (ch i2 : Int) : Prop :=
  (ch = -1 ∧ lsum G k ≤ i ∧ i2 = ((i - lsum G k : Nat) : Int)) ∨ ∃ f r, f < cs.length ∧ ch = (gt cs f : Nat) ∧ i2 = ((r : Nat) : Int) ∧ i = lsum G f + r ∧ r < (G f).length
def OAt (b : Nat) (st : Bool) (j : Nat) (T : List Nat) (n : Nat) (m : Sd) (j' : Nat) : Prop := j' = j ∧ ∃ (mk i : Nat) (l : Int) (fs r : List Nat) (c bl mn : Option D), mk < 64 ∧ (msk mk).length = n ∧ l ∈ lsts ∧ l ∉ zN (msk mk) ∧ (ords st n (msk mk) l)[i]? = some r ∧ T = fs ++ r ∧ fs.length + n ≤ 6 ∧ m = [some (oD b st), some (.int (i : Nat)), some (tN (msk mk)), some (.int l), some (.lst (dN fs)), c, bl, mn]
theorem w_order_at {b : Nat} {st : Bool} {i : Nat} {T : List Nat} (hb : b ≤ 6) (h1 : (oL b st)[i]? = some T) (q : P (tN T) j) : WF F_Orders_order_at [oD b st, .int (i : Nat)] j P E := by
  refine a_run rfl ?_
  show f_Orders_order_at [some (oD b st), some (.int (i : Nat)), none, none, none, none, none, none] j _ _
  have hL := LN
  have mb := msk_all b (by omega)
  have hr : ∀ b, b < 7 → 2 ^ b - 1 < 64 := by decide
  have lb : (List.range b).length = b := List.length_range
  simp [f_Orders_order_at]
  refine o_bl ?_
  unfold oL at h1
  rw [mb] at h1 ⊢
  rw [mb] at lb
  have hl : (-2 : Int) ∉ zN (msk (2 ^ b - 1)) := by
    rw [← mb]
    intro h
    obtain ⟨n, _, e⟩ := mem_z.mp h
    omega
  refine wH_inv (OAt b st j T) b ⟨rfl, 2 ^ b - 1, i, -2, [], T, none, none, none, hr b (by omega), lb, by decide, hl, h1, rfl, by simpa using hb, rfl⟩ ?_
  rintro n m j' ⟨rfl, mk, i, l, fs, r, c, bl, mn, hm, hn, hl1, hl2, hir, hT, hfs, rfl⟩
  obtain ⟨nd, n5, x5⟩ := msk_nd mk hm
  by_cases c0 : msk mk = []
  · have ne : neD (tN (msk mk)) (.tup []) = some (.bl false) := by rw [c0]; rfl
    rw [c0] at hn
    cases hn
    have r0 : r = [] := by
      have : r ∈ ords st 0 (msk mk) l := List.mem_of_getElem? hir
      simpa [ords] using this
    subst r0
    rw [List.append_nil] at hT
    subst hT
    simp [ne]
    exact q
  · have ne : neD (tN (msk mk)) (.tup []) = some (.bl true) := by
      have := ne_tN (A := msk mk) (B := [])
      rw [show tN ([] : List Nat) = D.tup [] from rfl] at this
      rw [this, decide_eq_false c0]; rfl
    obtain ⟨n, rfl⟩ : ∃ n', n = n' + 1 := ⟨n - 1, by have := List.length_pos_iff.mpr c0; omega⟩
    simp [ne]
    refine ⟨⟨_, rfl, rfl⟩, ?_⟩
    refine w_choices (left := msk mk) (by omega) ?_
    have csub : ∀ x ∈ chc st (msk mk) l, x ∈ msk mk := fun x hx => chc_sub hx
    rw [ords_eq] at hir
    generalize chc st (msk mk) l = cs at *
    obtain ⟨f0, r0, hf0, hr0, ei⟩ := fm_dec (ordG st n (msk mk) cs) (List.getElem?_eq_some_iff.mp hir).1
    have child : ∀ k, k < cs.length → ∃ m', m' < 64 ∧ wob (msk mk) (gt cs k) = msk m' ∧ (msk m').length = n ∧ ((gt cs k : Nat) : Int) ∉ zN (msk m') ∧ ((gt cs k : Nat) : Int) ∈ lsts ∧ wyv st (wob (msk mk) (gt cs k)) (gt cs k : Nat) = ((ordG st n (msk mk) cs k).length : Nat) := fun k hk => by
      have hxm := csub _ (gt_mem hk)
      have x6 := x5 _ hxm
      obtain ⟨m', a1, a2, a3, a4⟩ := msk_wob mk hm _ x6 hxm
      refine ⟨m', a1, a2, by omega, a4, lsts_of _ x6, ?_⟩
      rw [a2, wyv_ords n m' _ st a1 (by omega) (lsts_of _ x6) a4]
      unfold ordG
      rw [a2, List.length_map]
    refine ⟨_, rfl, ?_⟩
    refine wL_inv (fun k m2 j2 => j2 = j' ∧ ∃ ch i2 bl mn, Chn (ordG st n (msk mk) cs) cs i k ch i2 ∧ Is m2 [some (oD b st), some (.int i2), some (tN (msk mk)), some (.int l), some (.lst (dN fs)), some (.int ch), bl, mn]) ⟨rfl, -1, _, bl, mn, .inl ⟨rfl, Nat.zero_le _, rfl⟩, rfl⟩ ?_ ?_
    · rintro k d m2 j2 hd ⟨rfl, ch, i2, bl, mn, hc, rfl⟩
      obtain ⟨hk, rfl⟩ := dN_at hd
      obtain ⟨m', a1, a2, a3, a4, a5, a6⟩ := child k hk
      have ls : lsum (ordG st n (msk mk) cs) (k + 1) = lsum (ordG st n (msk mk) cs) k + (ordG st n (msk mk) cs k).length := rfl
      refine ⟨_, rfl, ?_⟩
      simp
      refine ⟨⟨_, rfl, rfl⟩, ?_⟩
      refine w_without (left := msk mk) (x := gt cs k) (by omega) ?_
      rw [a2]
      simp
      refine w_ways (msk_nd m' a1).1 a4 (by have := (msk_nd m' a1).2.1; omega) ?_
      rw [← a2, a6]
      rcases hc with ⟨rfl, c1, rfl⟩ | ⟨f, r1, hf, rfl, rfl, c3, c4⟩
      · by_cases c2 : i - lsum (ordG st n (msk mk) cs) k < (ordG st n (msk mk) cs k).length
        · have c2' : ((i - lsum (ordG st n (msk mk) cs) k : Nat) : Int) < ((ordG st n (msk mk) cs k).length : Nat) := by omega
          simp only [Int.reduceNeg, Int.reduceLT, true_and, not_true_eq_false, false_or, c2', and_self, and_false, or_false, false_and]
          simp
          exact .inr ⟨c2, _, _, .inr ⟨k, _, hk, rfl, rfl, by omega, c2⟩, _, _, rfl⟩
        · have c2' : ¬ (((i - lsum (ordG st n (msk mk) cs) k : Nat) : Int) < ((ordG st n (msk mk) cs k).length : Nat)) := by omega
          simp only [Int.reduceNeg, Int.reduceLT, true_and, not_true_eq_false, false_or, c2', and_self, and_false, or_false, false_and]
          simp
          exact .inl ⟨by omega, _, _, .inl ⟨rfl, by omega, by omega⟩, _, _, rfl⟩
      · have y0 : ¬ (((gt cs f : Nat) : Int) < 0) := by omega
        simp [y0]
        exact ⟨_, _, .inr ⟨f, r1, hf, rfl, rfl, c3, c4⟩, _, _, rfl⟩
    · rintro m2 j2 ⟨rfl, ch, i2, bl, mn, hc, rfl⟩
      rw [dN_len] at hc
      rcases hc with ⟨rfl, c1, c2⟩ | ⟨f, r1, hf, rfl, rfl, c3, c4⟩
      · have h2 : lsum (ordG st n (msk mk) cs) (f0 + 1) ≤ lsum (ordG st n (msk mk) cs) cs.length := lsum_mono hf0
        have h3 : lsum (ordG st n (msk mk) cs) (f0 + 1) = lsum (ordG st n (msk mk) cs) f0 + (ordG st n (msk mk) cs f0).length := rfl
        omega
      · obtain ⟨m', a1, a2, a3, a4, a5, a6⟩ := child f hf
        rw [c3, fm_at _ hf c4] at hir
        unfold ordG at hir
        rw [List.getElem?_map] at hir
        obtain ⟨s, hs, rfl⟩ := Option.map_eq_some_iff.mp hir
        simp
        refine ⟨by omega, ?_⟩
        refine w_without (left := msk mk) (x := gt cs f) (by omega) ?_
        rw [a2] at hs ⊢
        refine ⟨_, rfl, ?_⟩
        exact ⟨n, by omega, rfl, m', r1, (gt cs f : Nat), fs ++ [gt cs f], s, _, _, _, a1, a3, a5, a4, hs, by rw [hT, List.append_assoc]; rfl, by simp; omega, by rw [← dN_snoc]⟩
end
section
variable {j : Nat} {P : D → Nat → Prop} {E : Ex → Nat → Prop}
def IAt (b : Nat) (st : Bool) (j io : Nat) (O : List Nat) (k : Nat) (m : Sd) (j' : Nat) : Prop := j' = j ∧ ∃ (mk r : Nat) (l : Int) (z : Nat) (x y u : Option D), mk < 64 ∧ (msk mk).length + k = O.length ∧ l ∈ lsts ∧ l ∉ zN (msk mk) ∧ (ords st (msk mk).length (msk mk) l)[r]? = some (O.drop k) ∧ z + r = io ∧ Is m [some (oD b st), some (tN O), some (tN (msk mk)), some (.int l), some (.int (z : Nat)), x, y, u]
theorem ords_len (st : Bool) : ∀ (k m : Nat) (l : Int), m < 64 → (msk m).length = k → ∀ r ∈ ords st k (msk m) l, r.length = k
  | 0, m, l, _, _, r, h => by simp [ords] at h; rw [h]; rfl
  | k + 1, m, l, hm, hk, r, h => by
    obtain ⟨x, hx, h⟩ := List.mem_flatMap.mp h
    obtain ⟨s, hs, rfl⟩ := List.mem_map.mp h
    have hx := chc_sub hx
    obtain ⟨m', a1, a2, a3, a4⟩ := msk_wob m hm x ((msk_nd m hm).2.2 x hx) hx
    rw [a2] at hs
    rw [List.length_cons, ords_len st k m' x a1 (by omega) s hs]
theorem w_index_of {b : Nat} {st : Bool} {io : Nat} {O : List Nat} (hb : b ≤ 6) (h1 : (oL b st)[io]? = some O) (q : P (.int (io : Nat)) j) : WF F_Orders_index_of [oD b st, tN O] j P E := by
  refine a_run rfl ?_
  show f_Orders_index_of [some (oD b st), some (tN O), none, none, none, none, none, none] j _ _
  have hL := LN
  have mb := msk_all b (by omega)
  have hr : ∀ b, b < 7 → 2 ^ b - 1 < 64 := by decide
  have lb : (List.range b).length = b := List.length_range
  unfold oL at h1
  have hl : (-2 : Int) ∉ zN (List.range b) := by
    intro h
    obtain ⟨n, _, e⟩ := mem_z.mp h
    omega
  simp [f_Orders_index_of]
  refine o_bl ?_
  rw [mb] at h1 hl lb ⊢
  have lO : O.length = b := ords_len st b _ _ (hr b (by omega)) lb O (List.mem_of_getElem? h1)
  refine ⟨by omega, ?_⟩
  refine wL_inv (IAt b st j io O) ⟨rfl, 2 ^ b - 1, io, -2, 0, none, none, none, hr b (by omega), by omega, by decide, hl, by rw [lb]; exact h1, by omega, rfl⟩ ?_ ?_
  · rintro k d m j' hd ⟨rfl, mk, r, l, z, x, y, u, hm, hk, hl1, hl2, hir, hz, rfl⟩
    obtain ⟨hkO, rfl⟩ := dN_at hd
    obtain ⟨nd, n6, x6⟩ := msk_nd mk hm
    obtain ⟨n, hn⟩ : ∃ n, (msk mk).length = n + 1 := ⟨(msk mk).length - 1, by omega⟩
    rw [hn, ords_eq] at hir
    have srt : (chc st (msk mk) l).Pairwise (· < ·) := (msk_srt mk).filter _
    have csub : ∀ x ∈ chc st (msk mk) l, x ∈ msk mk := fun x hx => chc_sub hx
    refine ⟨_, rfl, ?_⟩
    simp
    refine ⟨⟨_, rfl, rfl⟩, ?_⟩
    refine w_choices (left := msk mk) (by omega) ?_
    have cl : (chc st (msk mk) l).length ≤ 8 := Nat.le_trans (List.length_filter_le _ _) (by omega)
    generalize chc st (msk mk) l = cs at *
    obtain ⟨f, r', hf, hr', rfl⟩ := fm_dec (ordG st n (msk mk) cs) (List.getElem?_eq_some_iff.mp hir).1
    rw [fm_at _ hf hr'] at hir
    unfold ordG at hir
    rw [List.getElem?_map] at hir
    obtain ⟨s, hs, es⟩ := Option.map_eq_some_iff.mp hir
    have ed : O.drop k = gt O k :: O.drop (k + 1) := by rw [List.drop_eq_getElem_cons hkO, gt_eq hkO]
    rw [ed] at es
    have eo : gt cs f = gt O k := by injection es
    have es2 : s = O.drop (k + 1) := by injection es
    subst es2
    refine ⟨_, rfl, by rw [dN_len]; omega, ?_⟩
    refine wC_NF (O := cs) (fun y => decide (y < gt O k)) (fun y => .int (y : Nat)) (fun y hy => ⟨_, rfl, ?_, fun _ => ?_⟩) ?_
    · simp
    · simp
    rw [← eo, sort_take srt hf]
    have tl : (cs.take f).length ≤ 8 := by rw [List.length_take]; omega
    have tsub : ∀ x ∈ cs.take f, x ∈ msk mk := fun x hx => csub x (List.mem_of_mem_take hx)
    have e1 : ((cs.take f).map fun y => D.int (wyv st (wob (msk mk) y) (y : Nat))) = dI ((cs.take f).map fun y : Nat => wyv st (wob (msk mk) y) (y : Nat)) := by unfold dI; rw [List.map_map]; rfl
    have e2 : ((cs.take f).map fun y : Nat => wyv st (wob (msk mk) y) (y : Nat)).sum = ((lsum (ordG st n (msk mk) cs) f : Nat) : Int) := by
      rw [ordG_sum st n (msk mk) cs f (Nat.le_of_lt hf)]
      unfold ordS
      refine sum_cast fun x hx => ?_
      have hx := tsub x hx
      obtain ⟨m', a1, a2, a3, a4⟩ := msk_wob mk hm x (x6 x hx) hx
      rw [a2]
      exact wyv_ords n m' x st a1 (by omega) (lsts_of x (x6 x hx)) a4
    generalize hsm : cs.take f = sm at *
    simp
    refine ⟨by omega, ?_⟩
    refine wC_map (L := sm) (c := fun y => .int (y : Nat)) (fun y => .int (wyv st (wob (msk mk) y) (y : Nat))) (fun y hy => ⟨_, rfl, ?_⟩) ?_
    · obtain ⟨m', a1, a2, a3, a4⟩ := msk_wob mk hm y (x6 y (tsub y hy)) (tsub y hy)
      simp
      refine ⟨⟨_, rfl, rfl⟩, ?_⟩
      refine w_without (left := msk mk) (x := y) (by omega) ?_
      refine ⟨_, rfl, ?_⟩
      rw [a2]
      refine w_ways (msk_nd m' a1).1 a4 (by omega) ?_
      exact ⟨rfl, rfl⟩
    · have ht : sumB [.lst (sm.map fun y => D.int (wyv st (wob (msk mk) y) (y : Nat)))] = some (.int ((lsum (ordG st n (msk mk) cs) f : Nat) : Int)) := by
        rw [e1, ← e2]
        show (match ints? ((sm.map fun y : Nat => wyv st (wob (msk mk) y) (y : Nat)).map D.int) with | some ns => some (D.int ns.sum) | none => none) = _
        rw [ints?_map]
      obtain ⟨m', a1, a2, a3, a4⟩ := msk_wob mk hm (gt cs f) (x6 _ (csub _ (gt_mem hf))) (csub _ (gt_mem hf))
      refine ⟨_, ht, _, rfl, _, rfl, _, rfl, ?_⟩
      refine w_without (left := msk mk) (x := gt cs f) (by omega) ?_
      rw [a2] at hs ⊢
      refine ⟨_, rfl, ?_⟩
      refine ⟨by omega, _, rfl, rfl, m', r', (gt cs f : Nat), z + lsum (ordG st n (msk mk) cs) f, _, _, _, a1, by omega, lsts_of _ (x6 _ (csub _ (gt_mem hf))), a4, by rw [show (msk m').length = n by omega]; exact hs, by omega, rfl⟩
  · rintro m j' ⟨rfl, mk, r, l, z, x, y, u, hm, hk, hl1, hl2, hir, hz, rfl⟩
    have h0 : (msk mk).length = 0 := by rw [dN_len] at hk; omega
    have r0 : r = 0 := by
      have := (List.getElem?_eq_some_iff.mp hir).1
      rw [h0] at this
      simp [ords] at this
      exact this
    subst r0
    rw [Nat.add_zero] at hz
    subst hz
    simp
    exact q
end
section
variable {L O : List Nat} {j : Nat} {P : D → Nat → Prop} {E : Ex → Nat → Prop}
def cex (n b : Nat) (st : Bool) : Int := (bin (n - 1) (b - 1) : Nat) * wyv st (List.range b) (-2)
theorem wyv_b : ∀ b, b < 9 → ∀ st : Bool, 0 ≤ wyv st (List.range b) (-2) ∧ wyv st (List.range b) (-2) ≤ 10 ^ 9 := by decide +kernel
theorem neg2 {b : Nat} : (-2 : Int) ∉ zN (List.range b) := fun h => by
  obtain ⟨n, _, e⟩ := mem_z.mp h
  omega
theorem wyv_oL {b : Nat} {st : Bool} (hb : b ≤ 6) : wyv st (List.range b) (-2) = ((oL b st).length : Nat) := by
  have mb := msk_all b (by omega)
  have hr : ∀ b, b < 7 → 2 ^ b - 1 < 64 := by decide
  have h := wyv_ords b (2 ^ b - 1) (-2) st (hr b (by omega)) (by rw [← mb]; exact List.length_range) (by decide) (by rw [← mb]; exact neg2)
  rw [← mb] at h
  exact h
theorem cex_len {n b : Nat} {st : Bool} (h1 : 1 ≤ b) (hb : b ≤ 6) (hn : b ≤ n) : cex n b st = ((exs n b st).length : Nat) := by
  unfold cex
  rw [wyv_oL hb, exs_len, bin_cho, lens_len b n h1 hn]
  push_cast; rfl
/-- what comes at an index -/
theorem exs_of {n b : Nat} {st : Bool} {i : Nat} (h : (exs n b st)[i]? = some (L, O)) : (lens b n)[i / (oL b st).length]? = some L ∧ (oL b st)[i % (oL b st).length]? = some O := by
  have hi := (List.getElem?_eq_some_iff.mp h).1
  rw [exs_len] at hi
  have hw : 0 < (oL b st).length := by
    rcases Nat.eq_zero_or_pos (oL b st).length with z | z
    · rw [z, Nat.mul_zero] at hi; omega
    · exact z
  have h1 : i / (oL b st).length < (lens b n).length := Nat.div_lt_of_lt_mul (by rw [Nat.mul_comm]; exact hi)
  have h2 : i % (oL b st).length < (oL b st).length := Nat.mod_lt _ hw
  have := exs_at (st := st) (List.getElem?_eq_getElem h1) (List.getElem?_eq_getElem h2)
  rw [h] at this
  injection this with this
  injection this with a1 a2
  rw [List.getElem?_eq_getElem h1, List.getElem?_eq_getElem h2, a1, a2]
  exact ⟨rfl, rfl⟩
theorem exs_isX {n b : Nat} {st : Bool} (h1 : 1 ≤ b) (hb : b ≤ 6) (hn : b ≤ n) (h : (L, O) ∈ exs n b st) : IsX L O ∧ L.length = b ∧ O.length = b ∧ L.sum = n := by
  obtain ⟨i, hi⟩ := List.getElem?_of_mem h
  obtain ⟨a1, a2⟩ := exs_of hi
  obtain ⟨l1, l2, l3⟩ := lens_ok b n h1 hn L (List.mem_of_getElem? a1)
  obtain ⟨o1, ⟨o2, o4⟩, o3⟩ := (oL_ok b (by omega) st (by omega)).2 O (List.mem_of_getElem? a2)
  refine ⟨⟨by omega, by omega, ?_, l3⟩, l1, o1, l2⟩
  rw [o1]
  exact (List.perm_ext_iff_of_nodup o3 List.nodup_range).mpr fun x => ⟨fun hx => List.mem_range.mpr (o4 x hx), fun hx => o2 x (List.mem_range.mp hx)⟩
theorem w_exchange_at {n b i : Nat} {st : Bool} (hN : n ≤ 10 ^ 12) (h1 : 1 ≤ b) (hb : b ≤ 6) (hn : b ≤ n) (h : (exs n b st)[i]? = some (L, O))
    (q : P (exD L O) j) : WF F_p_exchange_at [.int (n : Nat), .int (b : Nat), .int (i : Nat), .bl st] j P E := by
  refine a_run rfl ?_
  show f_p_exchange_at [some (.int (n : Nat)), some (.int (b : Nat)), some (.int (i : Nat)), some (.bl st), none, none] j _ _
  have hL := LN
  have e1 : ((n : Nat) : Int) - 1 = ((n - 1 : Nat) : Int) := by omega
  have e2 : ((b : Nat) : Int) - 1 = ((b - 1 : Nat) : Int) := by omega
  have hw := wyv_b b (by omega) st
  have bb := bin_84 (t := n - 1) (s := b - 1) (by omega) (by omega)
  obtain ⟨g1, g2⟩ := exs_of h
  have gi := (List.getElem?_eq_some_iff.mp h).1
  have ce := cex_len (st := st) h1 hb hn
  simp [f_p_exchange_at]
  refine w_mkO (by omega) ?_
  simp
  refine ⟨⟨_, rfl, rfl⟩, ?_⟩
  refine w_count_o (by omega) ?_
  simp
  rw [e1, e2]
  refine w_binomial (bn_84 (by omega) (by omega)) ?_
  rw [show (if b - 1 ≤ n - 1 then chs (n - 1) (b - 1) else 0) = bin (n - 1) (b - 1) from rfl]
  have em : mulD (.int (bin (n - 1) (b - 1) : Nat)) (.int (wyv st (List.range b) (-2))) = some (.int (cex n b st)) := mul_g (sg_of (by omega) (by omega)) (sg_of (by omega) (by omega))
  simp [em]
  refine w_is_whole ?_
  rw [decide_eq_true (show (0 : Int) ≤ (i : Nat) ∧ ((i : Nat) : Int) ≤ cex n b st - 1 by omega)]
  simp [truD]
  have ew := wyv_oL (st := st) hb
  have wp := (oL_ok b (by omega) st (by omega)).1
  have dv := div_i (a := (i : Nat)) (b := wyv st (List.range b) (-2)) (by omega) (sm_of (by omega) (by omega))
  have md := mod_i (a := (i : Nat)) (b := wyv st (List.range b) (-2)) (by omega)
  rw [ew] at dv md
  rw [ew]
  refine ⟨_, dv, ?_⟩
  rw [← Int.natCast_ediv]
  refine w_lat_f 8 b n _ h1 (by omega) (by omega) hn hN (List.getElem?_eq_some_iff.mp g1).1 fun L' hL' => ?_
  rw [g1] at hL'
  injection hL' with hL'
  subst hL'
  refine ⟨_, rfl, ?_⟩
  simp [md]
  refine ⟨_, rfl, rfl, ?_⟩
  first | rw [← Int.natCast_emod] | skip
  refine w_order_at hb g2 ?_
  exact ⟨by omega, q⟩
end
section
variable {L O : List Nat} {j : Nat} {P : D → Nat → Prop} {E : Ex → Nat → Prop}
theorem oL_std : ∀ b, b < 7 → ∀ O ∈ oL b true, kpt O = [] := by decide +kernel
theorem w_exchange_index {n b i : Nat} {st : Bool} (hN : n ≤ 10 ^ 12) (h1 : 1 ≤ b) (hb : b ≤ 6) (hn : b ≤ n) (h : (exs n b st)[i]? = some (L, O)) (q : P (.int (i : Nat)) j) : WF F_p_exchange_index [exD L O, .bl st] j P E := by
  refine a_run rfl ?_
  show f_p_exchange_index [some (exD L O), some (.bl st), none] j _ _
  have hL := LN
  obtain ⟨g1, g2⟩ := exs_of h
  obtain ⟨hX, lL, lO, hs⟩ := exs_isX h1 hb hn (List.mem_of_getElem? h)
  have hw := wyv_b L.length (by omega) st
  have wl := wyv_oL (st := st) hb
  have tail : ∀ m, m = [some (exD L O), some (.bl st), none] → ((sSeq (sSet 2 (eMak 0 F_Orders___init__ (aCons (eB lenB (aCons (eOp idxD (eVar 0) (eC (.int 0))) aNil)) (aCons (eVar 1) aNil))))
    (sSeq (sRet (eOp addD (eOp mulD (eCall F_p_lengths_index (aCons (eOp idxD (eVar 0) (eC (.int 0))) aNil)) (eMt1 0 "count" F_Orders_count (eVar 2) aNil)) (eMt1 0 "index_of" F_Orders_index_of (eVar 2) (aCons (eOp idxD (eVar 0) (eC (.int 1))) aNil))))
    sNil)) : Sv Nat) m j (endF P) (fun e x j' => E e j') := fun m hm => by
    subst hm
    simp
    refine w_mkO (by omega) ?_
    simp
    refine w_lix_f 8 L (by omega) (by omega) (by omega) hX.pos (by omega) ?_
    rw [lix_at b n _ L h1 hn g1]
    simp
    refine ⟨⟨_, rfl, rfl⟩, ?_⟩
    refine w_count_o (by omega) ?_
    rw [lL, wl]
    have ll := (List.getElem?_eq_some_iff.mp g1).1
    rw [lens_len b n h1 hn, ← bin_cho] at ll
    have bb := bin_84 (t := n - 1) (s := b - 1) (by omega) (by omega)
    have b0 : (0 : Int) ≤ ((i / (oL b st).length : Nat) : Int) := Int.natCast_nonneg _
    have b1 : ((i / (oL b st).length : Nat) : Int) ≤ ((bin (n - 1) (b - 1) : Nat) : Int) := Int.ofNat_le.mpr (Nat.le_of_lt ll)
    have mi := mul_g (a := ((i / (oL b st).length : Nat) : Int)) (b := ((oL b st).length : Nat)) (sg_of (Int.le_trans (by decide) b0) (Int.le_trans b1 (by omega))) (sg_of (by omega) (by rw [← wl, ← lL]; omega))
    first | rw [Int.natCast_ediv] at mi | skip
    refine ⟨_, mi, ?_⟩
    simp
    refine ⟨⟨_, rfl, rfl⟩, ?_⟩
    refine w_index_of hb g2 ?_
    refine ⟨_, rfl, ?_⟩
    have e : ((i : Nat) : Int) / ((oL b st).length : Nat) * ((oL b st).length : Nat) + ((i % (oL b st).length : Nat) : Int) = ((i : Nat) : Int) := by
      have := Nat.div_add_mod i (oL b st).length
      rw [← Int.natCast_ediv, ← Int.natCast_mul, ← Int.natCast_add, Nat.mul_comm, this]
    rw [e]
    exact q
  show sSeq (sIf _ _ _) _ _ _ _ _
  refine wSeq (fun fl m' j' => fl = .next ∧ j' = j ∧ m' = [some (exD L O), some (.bl st), none]) ?_ ?_
  · simp [truD]
    cases st with
    | false => simp
    | true =>
      simp
      refine w_kept_blocks hX (by omega) ?_
      have c := oL_std b (by omega) O (List.mem_of_getElem? g2)
      simp [c]
      exact ⟨_, rfl, .inl rfl⟩
  · rintro fl m' j' ⟨rfl, rfl, rfl⟩
    exact tail _ rfl
end
section
/-! ### what the walks yield -/
def one {α : Type} (xs : List α) (f : α → D) (q : Nat) : List D := match xs[q]? with | some x => [f x] | none => []
def prv (f : Nat → Option D) (d0 : Option D) : Nat → Option D
  | 0 => d0
  | q + 1 => f q
theorem one_at {α : Type} {xs : List α} {f : α → D} {q : Nat} {x : α} (h : xs[q]? = some x) : one xs f q = [f x] := by unfold one; rw [h]
theorem flt_one {α : Type} (xs : List α) (f : α → D) : flt (one xs f) xs.length = xs.map f := by
  have go : ∀ k, k ≤ xs.length → flt (one xs f) k = (xs.take k).map f := by
    intro k
    induction k with
    | zero => intro _; rfl
    | succ k ih =>
      intro hk
      rw [flt_s, ih (by omega), one_at (List.getElem?_eq_getElem hk), List.take_succ_eq_append_getElem hk, List.map_append]; rfl
  rw [go _ (Nat.le_refl _), List.take_length]
theorem flt_fm {α β : Type} (xs : List α) (g : α → List β) (d : α) (f : β → D) : (xs.flatMap g).map f = ((List.range xs.length).map fun k => (g (xs[k]?.getD d)).map f).flatten := by
  rw [fm_range xs g d, List.map_flatMap, List.flatMap_def]
theorem ys_lens : ∀ (m b n : Nat), 1 ≤ b → b ≤ m → b ≤ 6 → n ≤ 10 ^ 12 → YTo (recY y_p_walk_lengths m) (startD 4 [.int (n : Nat), .int (b : Nat)] : Sd) ((lens b n).map tN) (fun _ => True)
  | 0, b, n, h1, h2, _, _ => by omega
  | m + 1, b, n, h1, h2, h6, hN => by
    show YTo (y_p_walk_lengths (recY y_p_walk_lengths m)) [some (.int (n : Nat)), some (.int (b : Nat)), none, none] _ _
    have hM := LM
    have hL := LN
    have mo : MoY (recY y_p_walk_lengths m) := mo_recY (fun _ _ => inferInstance) m
    have ih0 := ys_lens m
    generalize recY y_p_walk_lengths m = φ at *
    unfold y_p_walk_lengths
    refine yTo_seq0 (R1 := fun _ => True) (yTo_if (b := decide (b = 1)) ?_ (fun c => ?_) fun c => ?_) fun _ _ => yTo_nil trivial
    · intro j P E h
      simp
      by_cases c : b = 1
      · rw [decide_eq_true c] at h
        exact .inr ⟨by omega, h⟩
      · rw [decide_eq_false c] at h
        exact .inl ⟨by omega, h⟩
    · have c := of_decide_eq_true c
      subst c
      refine yTo_seq (i2 := []) (R1 := fun _ => True) (yTo_yl ?_ trivial) fun m h => yTo_nil trivial
      intro j P E h
      simp
      exact ⟨by omega, h⟩
    · have c := of_decide_eq_false c
      obtain ⟨b, rfl⟩ : ∃ b', b = b' + 2 := ⟨b - 2, by omega⟩
      refine yTo_seq0 (R1 := fun _ => True) (YTo.imp (yTo_for (xs := rngD 1 (n - (b + 1))) (fun k m => ∃ x y, m = [some (.int (n : Nat)), some (.int ((b + 2 : Nat) : Int)), x, y]) (fun k => (lnG b n k).map tN) ?_ ⟨none, none, rfl⟩ ?_ ?_) fun _ _ => trivial) fun _ _ => yTo_nil trivial
      · intro j P E h
        have eT : (((n : Nat) : Int) - ((b : Nat) + 2 : Int) + 2 - 1).toNat = n - (b + 1) := by omega
        have eT2 : (((n : Nat) : Int) - ((b + 2 : Nat) : Int) + 2 - 1).toNat = n - (b + 1) := by omega
        simp
        refine ⟨by omega, by omega, by omega, by omega, ?_⟩
        first | rw [eT] | rw [eT2] | (rw [show (((n : Nat) : Int) - ((b : Nat) + 2 : Int) + 2).toNat - 1 = n - (b + 1) by omega])
        exact h
      · rintro k d m' hd ⟨x, y, rfl⟩
        have hk : k < n - (b + 1) := by have := (List.getElem?_eq_some_iff.mp hd).1; rw [rngD_length] at this; exact this
        rw [rngD_get hk] at hd
        cases hd
        refine ⟨_, rfl, ?_⟩
        have ih := ih0 (b + 1) (n - (k + 1)) (by omega) (by omega) (by omega) (by omega)
        have lk : lnG b n k = (lens (b + 1) (n - (k + 1))).map ((k + 1) :: ·) := rfl
        have lo := fun r hr => (lens_ok (b + 1) (n - (k + 1)) (by omega) (by omega) r hr).1
        rw [lk, List.map_map]
        generalize lens (b + 1) (n - (k + 1)) = ls at *
        have e1 : ((n : Nat) : Int) - (1 + (k : Nat)) = ((n - (k + 1) : Nat) : Int) := by omega
        have e2 : ((b + 2 : Nat) : Int) - 1 = ((b + 1 : Nat) : Int) := by omega
        have e2' : ((b : Nat) : Int) + 2 - 1 = ((b + 1 : Nat) : Int) := by omega
        refine yTo_seq0 (R1 := fun m => ∃ x y, m = [some (.int (n : Nat)), some (.int ((b + 2 : Nat) : Int)), x, y]) (YTo.imp (yTo_forG (fun q => [some (.int (n : Nat)), some (.int ((b + 2 : Nat) : Int)), some (.int (1 + (k : Nat))), prv (fun q => (ls.map tN)[q]?) y q]) (one ls (tN ∘ ((k + 1) :: ·))) ?_ ih rfl ?_ ?_ ?_) fun m' h => ⟨_, _, h⟩) fun _ h => yTo_nil h
        · intro j P E h
          simp
          first | rw [e1, e2] | rw [e1, e2']
          exact h
        · intro q hq
          rw [List.length_map] at hq
          rw [one_at (List.getElem?_eq_getElem hq)]
          simp
        · intro q d hd
          have hd0 := hd
          rw [List.getElem?_map] at hd
          obtain ⟨r, hr, rfl⟩ := Option.map_eq_some_iff.mp hd
          rw [one_at hr]
          have rl := lo r (List.mem_of_getElem? hr)
          refine yTo_seq (i2 := []) (R1 := fun m => m = _) (yTo_yl ?_ rfl) fun m h => yTo_nil (by rw [h]; show _ = [_, _, _, (ls.map tN)[q]?]; rw [hd0]; rfl)
          intro j P E h
          have e3 : (1 : Int) + (k : Nat) = ((k + 1 : Nat) : Int) := by omega
          simp [a_astar, seqT]
          refine ⟨by omega, ?_⟩
          rw [e3]
          exact h
        · rw [List.length_map, flt_one]
      · rw [rngD_length, lens_eq, List.map_flatMap, List.flatMap_def]
theorem filt_fm {α β : Type} (p : α → Bool) (g : α → List β) : ∀ xs : List α, (xs.filter p).flatMap g = xs.flatMap fun x => if p x = true then g x else []
  | [] => rfl
  | x :: xs => by
    rw [List.filter_cons, List.flatMap_cons, ← filt_fm p g xs]
    by_cases c : p x = true
    · rw [if_pos c, if_pos c, List.flatMap_cons]
    · rw [if_neg c, if_neg c]; rfl
theorem ys_ords {st : Bool} : ∀ (m mk : Nat) (last : Int), mk < 64 → (msk mk).length < m → YTo (recY y_p_walk_orders m) (startD 5 [tN (msk mk), .int last, .bl st] : Sd) ((ords st (msk mk).length (msk mk) last).map tN) (fun _ => True)
  | 0, mk, last, h1, h2 => by omega
  | m + 1, mk, last, hm, h2 => by
    show YTo (y_p_walk_orders (recY y_p_walk_orders m)) [some (tN (msk mk)), some (.int last), some (.bl st), none, none] _ _
    have hL := LN
    have mo : MoY (recY y_p_walk_orders m) := mo_recY (fun _ _ => inferInstance) m
    have ih0 := ys_ords (st := st) m
    generalize recY y_p_walk_orders m = φ at *
    obtain ⟨nd, n6, x6⟩ := msk_nd mk hm
    unfold y_p_walk_orders
    have e0 : (ords st (msk mk).length (msk mk) last).map tN = (if msk mk = [] then [tN []] else []) ++ (((List.range (msk mk).length).map fun k => if (!st || decide (((gt (msk mk) k : Nat) : Int) ≠ last + 1)) = true then (ords st ((msk mk).length - 1) (wob (msk mk) (gt (msk mk) k)) (gt (msk mk) k : Nat)).map (tN ∘ (gt (msk mk) k :: ·)) else []).flatten ++ []) := by
      rw [List.append_nil]
      by_cases c : msk mk = []
      · rw [if_pos c, c]; rfl
      · rw [if_neg c, List.nil_append]
        obtain ⟨n, hn⟩ : ∃ n, (msk mk).length = n + 1 := ⟨(msk mk).length - 1, by have := List.length_pos_iff.mpr c; omega⟩
        rw [hn, show n + 1 - 1 = n from rfl]
        show (List.map tN ((chc st (msk mk) last).flatMap fun x => (ords st n (wob (msk mk) x) (x : Nat)).map (x :: ·))) = _
        unfold chc
        rw [filt_fm, flt_fm _ _ 0, hn]
        congr 1
        refine List.map_congr_left fun k hk => ?_
        have : (msk mk)[k]?.getD 0 = gt (msk mk) k := by unfold gt; rw [List.getD_eq_getElem?_getD]
        rw [this]
        split
        · rw [List.map_map]
        · rfl
    rw [e0]
    refine yTo_seq (R1 := fun m => m = [some (tN (msk mk)), some (.int last), some (.bl st), none, none]) (yTo_if (b := decide (msk mk = [])) ?_ (fun c => ?_) fun c => ?_) ?_
    · intro j P E h
      have : eqTD (tN (msk mk)) (.tup []) = some (.bl (decide (msk mk = []))) := by
        cases msk mk <;> rfl
      simp [this]
      by_cases c : msk mk = []
      · rw [decide_eq_true c] at h
        exact .inr ⟨c, h⟩
      · rw [decide_eq_false c] at h
        exact .inl ⟨c, h⟩
    · rw [if_pos (of_decide_eq_true c)]
      refine yTo_seq (i2 := []) (R1 := fun m => m = _) (yTo_yl ?_ rfl) fun m h => yTo_nil h
      intro j P E h
      simp
      exact h
    · rw [if_neg (of_decide_eq_false c)]
      exact yTo_nil rfl
    rintro m1 rfl
    refine yTo_seq (R1 := fun _ => True) (YTo.imp (yTo_for (xs := dN (msk mk)) (fun k m => ∃ x y, m = [some (tN (msk mk)), some (.int last), some (.bl st), x, y]) _ ?_ ⟨none, none, rfl⟩ ?_ (by rw [dN_len])) fun _ _ => trivial) fun _ _ => yTo_nil trivial
    · intro j P E h
      simp
      exact h
    · rintro k d m' hd ⟨x, y, rfl⟩
      obtain ⟨hk, rfl⟩ := dN_at hd
      refine ⟨_, rfl, ?_⟩
      refine yTo_seq0 (R1 := fun m => ∃ x y, m = [some (tN (msk mk)), some (.int last), some (.bl st), x, y]) (yTo_if (b := (!st || decide (((gt (msk mk) k : Nat) : Int) ≠ last + 1))) ?_ (fun c => ?_) fun c => ?_) fun m h => yTo_nil h
      · intro j P E h
        cases st with
        | false => simp [truD]; simpa using h
        | true =>
          simp [truD]
          by_cases c : ((gt (msk mk) k : Nat) : Int) = last + 1
          · refine .inl ⟨c, ?_⟩
            simpa [c] using h
          · refine .inr ⟨c, ?_⟩
            simpa [c] using h
      · rw [if_pos c]
        have hkm := gt_mem hk
        obtain ⟨m2, a1, a2, a3, a4⟩ := msk_wob mk hm _ (x6 _ hkm) hkm
        have ih := ih0 m2 (gt (msk mk) k : Nat) a1 (by omega)
        rw [show (msk m2).length = (msk mk).length - 1 by omega, ← a2] at ih
        have lo : ∀ r ∈ ords st ((msk mk).length - 1) (wob (msk mk) (gt (msk mk) k)) (gt (msk mk) k : Nat), r.length ≤ 6 := fun r hr => by
          rw [a2] at hr
          rw [ords_len st _ m2 _ a1 (by omega) r hr]; omega
        generalize ords st ((msk mk).length - 1) (wob (msk mk) (gt (msk mk) k)) (gt (msk mk) k : Nat) = ls at *
        refine yTo_seq0 (R1 := fun m => ∃ x y, m = [some (tN (msk mk)), some (.int last), some (.bl st), x, y]) (YTo.imp (yTo_forG (fun q => [some (tN (msk mk)), some (.int last), some (.bl st), some (.int (gt (msk mk) k : Nat)), prv (fun q => (ls.map tN)[q]?) y q]) (one ls (tN ∘ (gt (msk mk) k :: ·))) ?_ ih rfl ?_ ?_ ?_) fun m' h => ⟨_, _, h⟩) fun _ h => yTo_nil h
        · intro j P E h
          simp
          refine w_without (left := msk mk) (x := gt (msk mk) k) (by omega) ?_
          exact ⟨_, rfl, _, rfl, h⟩
        · intro q hq
          rw [List.length_map] at hq
          rw [one_at (List.getElem?_eq_getElem hq)]
          simp
        · intro q d hd
          have hd0 := hd
          rw [List.getElem?_map] at hd
          obtain ⟨r, hr, rfl⟩ := Option.map_eq_some_iff.mp hd
          rw [one_at hr]
          have rl := lo r (List.mem_of_getElem? hr)
          refine yTo_seq (i2 := []) (R1 := fun m => m = _) (yTo_yl ?_ rfl) fun m h => yTo_nil (by rw [h]; show _ = [_, _, _, _, (ls.map tN)[q]?]; rw [hd0]; rfl)
          intro j P E h
          simp [a_astar, seqT]
          exact ⟨by omega, h⟩
        · rw [List.length_map, flt_one]
      · rw [if_neg (by rw [c]; simp)]
        exact yTo_nil ⟨_, _, rfl⟩
def exP (p : List Nat × List Nat) : D := exD p.1 p.2
theorem ys_exs {n b : Nat} {st : Bool} (hN : n ≤ 10 ^ 12) (h1 : 1 ≤ b) (hb : b ≤ 6) : YTo y_p_walk_exchanges (startD 5 [.int (n : Nat), .int (b : Nat), .bl st] : Sd) ((exs n b st).map exP) (fun _ => True) := by
  show YTo y_p_walk_exchanges [some (.int (n : Nat)), some (.int (b : Nat)), some (.bl st), none, none] _ _
  have hL := LN
  have hM := LM
  have m1 : MoY (Y_p_walk_lengths) := mo_recY (fun _ _ => inferInstance) 8
  have m2 : MoY (Y_p_walk_orders) := mo_recY (fun _ _ => inferInstance) 8
  have y1 := ys_lens 8 b n h1 (by omega) hb hN
  have mb := msk_all b (by omega)
  have hr : ∀ b, b < 7 → 2 ^ b - 1 < 64 := by decide
  have y2 : YTo Y_p_walk_orders (startD 5 [tN (List.range b), .int (-2), .bl st] : Sd) ((oL b st).map tN) (fun _ => True) := by
    have lb : (List.range b).length = b := List.length_range
    have := ys_ords (st := st) 8 (2 ^ b - 1) (-2) (hr b (by omega)) (by rw [← mb, lb]; omega)
    rw [← mb, lb] at this
    exact this
  have op := (oL_ok b (by omega) st (by omega)).1
  have ol := (oL_ok b (by omega) st (by omega)).2
  have ee : (exs n b st).map exP = flt (fun k => (oL b st).map fun O => exD ((lens b n)[k]?.getD []) O) ((lens b n).map tN).length := by
    unfold exs
    rw [flt_fm _ _ [], List.length_map]
    unfold flt
    congr 1
    refine List.map_congr_left fun k _ => ?_
    rw [List.map_map]; rfl
  generalize oL b st = ls at *
  generalize lens b n = Ls at *
  unfold y_p_walk_exchanges
  refine yTo_seq0 (R1 := fun _ => True) (YTo.imp (yTo_forG (fun q => [some (.int (n : Nat)), some (.int (b : Nat)), some (.bl st), prv (fun q => (Ls.map tN)[q]?) none q, prv (fun _ => (ls.map tN)[ls.length - 1]?) none q]) (fun k => ls.map fun O => exD (Ls[k]?.getD []) O) ?_ y1 rfl ?_ ?_ ee) fun _ _ => trivial) fun _ _ => yTo_nil trivial
  · intro j P E h
    simp
    exact h
  · intro q hq e
    have := congrArg List.length e
    rw [List.length_map, List.length_nil] at this
    omega
  · intro q d hd
    have hd0 := hd
    rw [List.getElem?_map] at hd
    obtain ⟨r, hr, rfl⟩ := Option.map_eq_some_iff.mp hd
    rw [hr]
    generalize hy : prv (fun _ => (ls.map tN)[ls.length - 1]?) none q = y
    refine yTo_seq0 (R1 := fun m => m = [some (.int (n : Nat)), some (.int (b : Nat)), some (.bl st), some (tN r), (ls.map tN)[ls.length - 1]?]) (YTo.imp (yTo_forG (fun q => [some (.int (n : Nat)), some (.int (b : Nat)), some (.bl st), some (tN r), prv (fun q => (ls.map tN)[q]?) y q]) (one ls (fun O => exD r O)) ?_ y2 rfl ?_ ?_ ?_) fun m' h => ?_) fun _ h => yTo_nil (by rw [h]; show _ = [_, _, _, (Ls.map tN)[q]?, _]; rw [hd0]; rfl)
    · intro j P E h
      simp
      refine ⟨by omega, by omega, by rw [rngD_length]; omega, ?_⟩
      rw [rng_N]
      exact h
    · intro q hq
      rw [List.length_map] at hq
      rw [one_at (List.getElem?_eq_getElem hq)]
      simp
    · intro q d hd
      have hd0 := hd
      rw [List.getElem?_map] at hd
      obtain ⟨s, hs, rfl⟩ := Option.map_eq_some_iff.mp hd
      rw [one_at hs]
      refine yTo_seq (i2 := []) (R1 := fun m => m = _) (yTo_yl ?_ rfl) fun m h => yTo_nil (by rw [h]; show _ = [_, _, _, _, (ls.map tN)[q]?]; rw [hd0]; rfl)
      intro j P E h
      simp
      exact ⟨by omega, h⟩
    · rw [List.length_map, flt_one]; rfl
    · rw [h, List.length_map]
      obtain ⟨k, hk⟩ : ∃ k, ls.length = k + 1 := ⟨ls.length - 1, by omega⟩
      rw [hk]; rfl
end
section
variable {j : Nat} {P : D → Nat → Prop} {E : Ex → Nat → Prop}
theorem w_choose {t s : Nat} (b : Bn t s) (q : P (.int (if s ≤ t then chs t s else 0 : Nat)) j) : WF F_choose [.int (t : Nat), .int (s : Nat)] j P E := by
  have ht := b.ht
  have hs := b.hs
  refine a_run rfl ?_
  show f_choose [some (.int (t : Nat)), some (.int (s : Nat)), none, none] j _ _
  have hL := LN
  have hM := LM
  simp [f_choose]
  by_cases c : s ≤ t
  · rw [if_pos c] at q
    refine .inl ⟨c, by omega, by omega, ?_⟩
    refine wL_inv (fun k m j' => j' = j ∧ k ≤ s ∧ ∃ x, Is m [some (.int (t : Nat)), some (.int (s : Nat)), some (.int (chs t k : Nat)), x]) ⟨rfl, Nat.zero_le _, none, rfl⟩ ?_ ?_
    · rintro k d m j' hd ⟨rfl, hk, x, rfl⟩
      obtain ⟨hlt, rfl⟩ := dN_at (O := List.range s) (by rw [← rng_N]; exact hd)
      rw [List.length_range] at hlt
      rw [gt_range hlt]
      obtain ⟨z, e1, e2⟩ := chs_step (b.c k hlt) ht (by omega) (by omega)
      refine ⟨_, rfl, ?_⟩
      simp [e1, e2]
      exact ⟨by omega, _, rfl⟩
    · rintro m j' ⟨rfl, hk, x, rfl⟩
      rw [rng_N, dN_len, List.length_range]
      simp
      exact q
  · rw [if_neg c] at q
    exact .inr ⟨by omega, q⟩
def oc (only : Bool) : Nat → Nat
  | 0 => 1
  | 1 => 1
  | k + 2 => if only then (k + 1) * oc only (k + 1) + k * oc only k else (k + 2) * oc only (k + 1)
theorem w_lcount {n b : Nat} {st : Bool} (hn : b ≤ n) (hN : n ≤ 10 ^ 12) (h1 : 1 ≤ b) (hb : b ≤ 6) (q : P (.int ((exs n b st).length : Nat)) j) : WF F_count [.int (n : Nat), .int (b : Nat), .bl st] j P E := by
  refine a_run rfl ?_
  show f_count [some (.int (n : Nat)), some (.int (b : Nat)), some (.bl st), none, none] j _ _
  have hL := LN
  have hM := LM
  have e1 : ((n : Nat) : Int) - 1 = ((n - 1 : Nat) : Int) := by omega
  have e2 : ((b : Nat) : Int) - 1 = ((b - 1 : Nat) : Int) := by omega
  have ob : ∀ st : Bool, ∀ k, k < 8 → oc st k ≤ 10 ^ 9 := by decide
  have oe : ∀ st : Bool, ∀ b, b < 7 → 1 ≤ b → oc st b = (oL b st).length := by decide +kernel
  have bb := bin_84 (t := n - 1) (s := b - 1) (by omega) (by omega)
  simp [f_count]
  refine ⟨by omega, by omega, by omega, by omega, by omega, ?_⟩
  have eT : (((b : Nat) : Int) + 1 - 2).toNat = b - 1 := by omega
  rw [eT]
  have two : ∀ k, (List.range (k + 2)).map (oc st) = (List.range k).map (oc st) ++ [oc st k, oc st (k + 1)] := fun k => by
    rw [List.range_succ, List.range_succ, List.map_append, List.map_append, List.append_assoc]; rfl
  have i1 : ∀ k, k < 6 → idxD (lN ((List.range (k + 2)).map (oc st))) (.int (-1)) = some (.int (oc st (k + 1) : Nat)) := fun k hk => by
    have : k = 0 ∨ k = 1 ∨ k = 2 ∨ k = 3 ∨ k = 4 ∨ k = 5 := by omega
    rcases this with rfl | rfl | rfl | rfl | rfl | rfl <;> rfl
  have i2 : ∀ k, k < 6 → idxD (lN ((List.range (k + 2)).map (oc st))) (.int (-2)) = some (.int (oc st k : Nat)) := fun k hk => by
    have : k = 0 ∨ k = 1 ∨ k = 2 ∨ k = 3 ∨ k = 4 ∨ k = 5 := by omega
    rcases this with rfl | rfl | rfl | rfl | rfl | rfl <;> rfl
  refine wL_inv (fun k m j' => j' = j ∧ k ≤ b - 1 ∧ ∃ x, Is m [some (.int (n : Nat)), some (.int (b : Nat)), some (.bl st), some (lN ((List.range (k + 2)).map (oc st))), x]) ⟨rfl, Nat.zero_le _, none, rfl⟩ ?_ ?_
  · rintro k d m j' hd ⟨rfl, hk, x, rfl⟩
    have hlt : k < b - 1 := by have := (List.getElem?_eq_some_iff.mp hd).1; rw [rngD_length] at this; exact this
    rw [rngD_get hlt] at hd
    cases hd
    have b1 := ob st (k + 1) (by omega)
    have b0 := ob st k (by omega)
    have c1 : ((2 : Int) + (k : Nat)) - 1 = ((k + 1 : Nat) : Int) := by omega
    have c2 : ((2 : Int) + (k : Nat)) - 2 = ((k : Nat) : Int) := by omega
    have c0 : ((2 : Int) + (k : Nat)) = ((k + 2 : Nat) : Int) := by omega
    have s0 : ∀ i : Nat, i ≤ 10 ^ 9 → sm ((i : Nat) : Int) = true := fun i hi => sm_of (by omega) (by omega)
    refine ⟨_, rfl, ?_⟩
    obtain ⟨z, hz, ez⟩ : ∃ z, intB [.bl st] = some z ∧ ∀ a c : D, idxD (.lst [a, c]) z = some (if st then c else a) := by
      cases st with
      | true => exact ⟨.int 1, rfl, fun a c => rfl⟩
      | false => exact ⟨.int 0, rfl, fun a c => rfl⟩
    have en : (if st = true then D.int (((k + 1 : Nat) : Int) * (oc st (k + 1) : Nat) + ((k : Nat) : Int) * (oc st k : Nat)) else D.int (((k + 2 : Nat) : Int) * (oc st (k + 1) : Nat))) = D.int (oc st (k + 2) : Nat) := by
      cases st with
      | true => show D.int _ = D.int (((k + 1) * oc true (k + 1) + k * oc true k : Nat) : Int); push_cast; rfl
      | false => show D.int _ = D.int (((k + 2) * oc false (k + 1) : Nat) : Int); push_cast; rfl
    simp [i1 k (by omega), i2 k (by omega)]
    rw [c1, c2, c0]
    refine ⟨_, mul_i (s0 _ (by omega)) (s0 _ b1), _, mul_i (s0 _ (by omega)) (s0 _ b1), _, mul_i (s0 _ (by omega)) (s0 _ b0), _, rfl, by omega, z, hz, _, ez _ _, by omega, by omega, ?_⟩
    rw [en]
    have e3 : dN ((List.range (k + 2)).map (oc st)) ++ [D.int (oc st (k + 2) : Nat)] = dN ((List.range (k + 1 + 2)).map (oc st)) := by
      rw [show k + 1 + 2 = (k + 2) + 1 by omega, List.range_succ (n := k + 2), List.map_append, dN_snoc]; rfl
    rw [e3]
    exact ⟨_, rfl⟩
  · rintro m j' ⟨rfl, hk, x, rfl⟩
    rw [rngD_length]
    have ix : idxD (lN ((List.range (b - 1 + 2)).map (oc st))) (.int (b : Nat)) = some (.int (oc st b : Nat)) := by
      rw [ix_l (by simp; omega), gt_eq (by simp; omega)]
      simp
    simp
    rw [e1, e2]
    refine w_choose (bn_84 (by omega) (by omega)) ?_
    rw [show (if b - 1 ≤ n - 1 then chs (n - 1) (b - 1) else 0) = bin (n - 1) (b - 1) from rfl]
    refine ⟨_, rfl, _, rfl, _, ix, _, mul_g (sg_of (by omega) (by omega)) (sg_of (by omega) (by have := ob st b (by omega); omega)), ?_⟩
    rw [exs_len, ← oe st b (by omega) h1, lens_len b n h1 hn, ← bin_cho, Int.natCast_mul] at q
    exact q
end
section
variable {j : Nat} {P : D → Nat → Prop} {E : Ex → Nat → Prop}
def ors (b : Nat) : Nat → List (List Nat)
  | 0 => [[]]
  | t + 1 => (ors b t).flatMap fun r => ((List.range b).filter fun x => decide (x ∉ r)).map fun x => r ++ [x]
theorem ors_len {b : Nat} : ∀ t, ∀ r ∈ ors b t, r.length = t
  | 0, r, h => by simp [ors] at h; rw [h]; rfl
  | t + 1, r, h => by
    obtain ⟨s, hs, h⟩ := List.mem_flatMap.mp h
    obtain ⟨x, _, rfl⟩ := List.mem_map.mp h
    rw [List.length_append, ors_len t s hs]; rfl
theorem ors_many : ∀ b, b < 7 → ∀ t, t < 7 → (ors b t).length ≤ 720 := by decide +kernel
theorem fm_take {α β : Type} {xs : List α} {g : α → List β} {k : Nat} {x : α} (h : xs[k]? = some x) : (xs.take (k + 1)).flatMap g = (xs.take k).flatMap g ++ g x := by
  obtain ⟨h1, h2⟩ := List.getElem?_eq_some_iff.mp h
  rw [List.take_succ_eq_append_getElem h1, h2, List.flatMap_append]
  simp
theorem fm_le {α β : Type} {xs : List α} {g : α → List β} (k : Nat) : ((xs.take k).flatMap g).length ≤ (xs.flatMap g).length := by
  conv => rhs; rw [← List.take_append_drop k xs, List.flatMap_append, List.length_append]
  omega
def orx (b : Nat) (r : List Nat) : List (List Nat) := ((List.range b).filter fun x => decide (x ∉ r)).map fun x => r ++ [x]
theorem w_orders {b : Nat} (hb : b ≤ 6) (q : P (.lst ((ors b b).map tN)) j) : WF F_orders [.int (b : Nat)] j P E := by
  refine a_run rfl ?_
  show f_orders [some (.int (b : Nat)), none, none, none, none, none] j _ _
  have hL := LN
  have hM := LM
  simp [f_orders]
  refine ⟨by omega, by omega, by omega, ?_⟩
  refine wL_inv (fun t m j' => j' = j ∧ t ≤ b ∧ ∃ x y z u, Is m [some (.int (b : Nat)), some (.lst ((ors b t).map tN)), x, y, z, u]) ⟨rfl, Nat.zero_le _, none, none, none, none, rfl⟩ ?_ ?_
  · rintro t d m j' hd ⟨rfl, ht, x, y, z, u, rfl⟩
    obtain ⟨hlt, rfl⟩ := dN_at (O := List.range b) (by rw [← rng_N]; exact hd)
    rw [List.length_range] at hlt
    rw [gt_range hlt]
    have om := ors_many b (by omega) t (by omega)
    have om1 := ors_many b (by omega) (t + 1) (by omega)
    have orl := ors_len (b := b) t
    refine ⟨_, rfl, ?_⟩
    simp
    have e1 : ors b (t + 1) = (ors b t).flatMap (orx b) := rfl
    rw [e1] at om1 ⊢
    generalize ors b t = xs at *
    refine wL_inv (fun k m j2 => j2 = j' ∧ ∃ z u, Is m [some (.int (b : Nat)), none, some (.int (t : Nat)), some (.lst (((xs.take k).flatMap (orx b)).map tN)), z, u]) ⟨rfl, _, _, rfl⟩ ?_ ?_
    · rintro k d m j2 hd ⟨rfl, z, u, rfl⟩
      rw [List.getElem?_map] at hd
      obtain ⟨r, hr, rfl⟩ := Option.map_eq_some_iff.mp hd
      have rl := orl r (List.mem_of_getElem? hr)
      refine ⟨_, rfl, ?_⟩
      simp
      refine ⟨by omega, by omega, by rw [rngD_length]; omega, ?_⟩
      refine wC_rngF (fun x => decide (x ∉ r)) (fun x => tN (r ++ [x])) (fun i hi => ⟨_, rfl, ?_, fun _ => ?_⟩) ?_
      · simp [nin_tZ, mem_zn]
      · simp [LN]
        rw [add_t (by simp; omega)]
        show some (D.tup (dN r ++ dN [i])) = _
        rw [dN_app]
      · have e2 := fm_take (g := orx b) hr
        have e3 := fm_le (xs := xs) (g := orx b) (k + 1)
        rw [e2, List.length_append] at e3
        have e4 : (orx b r).map tN = ((List.range b).filter fun x => decide (x ∉ r)).map fun x => tN (r ++ [x]) := by unfold orx; rw [List.map_map]; rfl
        rw [← e4]
        rw [e2, List.map_append]
        exact ⟨_, rfl, by simp only [List.length_map]; omega, rfl, _, _, rfl⟩
    · rintro m j2 ⟨rfl, z, u, rfl⟩
      rw [List.length_map, List.take_length]
      simp
      exact ⟨by omega, _, _, _, _, rfl⟩
  · rintro m j' ⟨rfl, ht, x, y, z, u, rfl⟩
    rw [rng_N, dN_len, List.length_range]
    simp
    exact q
end
section
variable {j : Nat} {P : D → Nat → Prop} {E : Ex → Nat → Prop}
def szs : Nat → Nat → List (List Nat)
  | 0, _ => []
  | 1, n => [[n]]
  | b + 2, n => (List.range (n - (b + 1))).flatMap fun i => (szs (b + 1) (n - (1 + i))).map fun r => (1 + i) :: r
theorem szs_len : ∀ b n, 1 ≤ b → ∀ r ∈ szs b n, r.length = b
  | 0, _, h, _, _ => by omega
  | 1, n, _, r, h => by simp [szs] at h; rw [h]; rfl
  | b + 2, n, _, r, h => by
    obtain ⟨i, _, h⟩ := List.mem_flatMap.mp h
    obtain ⟨s, hs, rfl⟩ := List.mem_map.mp h
    rw [List.length_cons, szs_len (b + 1) _ (by omega) s hs]
theorem szs_many : ∀ b, b < 7 → ∀ n, n < 7 → (szs b n).length ≤ 100 := by decide
theorem w_sizes_f : ∀ (m b n : Nat), 1 ≤ b → b ≤ m → b ≤ n → n ≤ 6 → ∀ {j : Nat} {P : D → Nat → Prop} {E : Ex → Nat → Prop}, P (.lst ((szs b n).map tN)) j → WF (recF 5 2 f_sizes m) [.int (n : Nat), .int (b : Nat)] j P E
  | 0, b, n, h1, h2, _, _, _, _, _, _ => by omega
  | m + 1, b, n, h1, h2, h3, h4, j, P, E, q => by
    refine a_run (s := f_sizes (recF 5 2 f_sizes m)) (k := 5) (n := 2) rfl ?_
    show f_sizes _ [some (.int (n : Nat)), some (.int (b : Nat)), none, none, none] j _ _
    have hL := LN
    have hM := LM
    have mo : MoF (recF 5 2 f_sizes m) := mo_rec (fun _ _ => inferInstance) m
    simp [f_sizes]
    by_cases c : b = 1
    · subst c
      exact .inr ⟨rfl, by omega, q⟩
    · obtain ⟨b, rfl⟩ : ∃ b', b = b' + 2 := ⟨b - 2, by omega⟩
      refine .inl ⟨by omega, by omega, by omega, by omega, by omega, ?_⟩
      have eT : (((n : Nat) : Int) - ((b + 2 : Nat) : Int) + 2).toNat - 1 = n - (b + 1) := by omega
      rw [eT]
      have gm := szs_many (b + 2) (by omega) n (by omega)
      have eg : szs (b + 2) n = (List.range (n - (b + 1))).flatMap fun i => (szs (b + 1) (n - (1 + i))).map fun r => (1 + i) :: r := rfl
      rw [eg] at gm q
      obtain ⟨rs, hrs⟩ : ∃ rs, rs = List.range (n - (b + 1)) := ⟨_, rfl⟩
      have rl : rs.length = n - (b + 1) := by rw [hrs]; simp
      rw [← hrs] at gm q
      generalize hg : (fun i => (szs (b + 1) (n - (1 + i))).map fun r => (1 + i) :: r) = g at gm q
      refine wL_inv (fun k m' j2 => j2 = j ∧ ∃ x y, Is m' [some (.int (n : Nat)), some (.int ((b + 2 : Nat) : Int)), some (.lst (((rs.take k).flatMap g).map tN)), x, y]) ⟨rfl, none, none, rfl⟩ ?_ ?_
      · rintro k d m' j2 hd ⟨rfl, x, y, rfl⟩
        have hk : k < n - (b + 1) := by have := (List.getElem?_eq_some_iff.mp hd).1; rw [rngD_length] at this; exact this
        rw [rngD_get hk] at hd
        cases hd
        have e1 : ((n : Nat) : Int) - (1 + (k : Nat)) = ((n - (1 + k) : Nat) : Int) := by omega
        have e2 : ((b + 2 : Nat) : Int) - 1 = ((b + 1 : Nat) : Int) := by omega
        have hr : rs[k]? = some k := by rw [hrs]; simp [hk]
        have f2 := fm_take (g := g) hr
        have f3 := fm_le (xs := rs) (g := g) (k + 1)
        rw [f2, List.length_append] at f3
        have gk : g k = (szs (b + 1) (n - (1 + k))).map fun r => (1 + k) :: r := by rw [← hg]
        have sl := szs_len (b + 1) (n - (1 + k)) (by omega)
        refine ⟨_, rfl, ?_⟩
        simp
        have e2' : ((b : Nat) : Int) + 2 - 1 = ((b + 1 : Nat) : Int) := by omega
        rw [e1]
        first | rw [e2'] | rw [e2]
        refine w_sizes_f m (b + 1) (n - (1 + k)) (by omega) (by omega) (by omega) (by omega) ?_
        refine ⟨_, rfl, by rw [List.length_map]; have := szs_many (b + 1) (by omega) (n - (1 + k)) (by omega); omega, ?_⟩
        refine wC_map (L := szs (b + 1) (n - (1 + k))) (c := tN) (fun r => tN ((1 + k) :: r)) (fun r hr => ⟨_, rfl, ?_⟩) ?_
        · have rl2 := sl r hr
          simp [LN]
          rw [add_t (by simp; omega)]
          rfl
        · have e4 : (g k).map tN = (szs (b + 1) (n - (1 + k))).map fun r => tN ((1 + k) :: r) := by rw [gk, List.map_map]; rfl
          rw [← e4]
          rw [f2, List.map_append]
          exact ⟨_, rfl, by simp only [List.length_map]; omega, rfl, _, _, rfl⟩
      · rintro m' j2 ⟨rfl, x, y, rfl⟩
        have et : rs.take (n - (b + 1)) = rs := List.take_of_length_le (by omega)
        rw [rngD_length, et]
        simp
        exact q
theorem szs_lens : ∀ b n, szs b n = lens b n
  | 0, _ => rfl
  | 1, _ => rfl
  | b + 2, n => by
    show (List.range (n - (b + 1))).flatMap _ = (List.range (n - (b + 1))).flatMap _
    congr 1
    funext i
    rw [szs_lens (b + 1), Nat.add_comm 1 i]
end
section
variable {j : Nat} {P : D → Nat → Prop} {E : Ex → Nat → Prop}
def isStd (r : List Nat) : Bool := decide (((List.range (r.length - 1)).filter fun i => decide (gt r (i + 1) = gt r i + 1)) = [])
theorem w_is_std {r : List Nat} (hr : r.length ≤ 6) (q : P (.bl (isStd r)) j) : WF F_is_standard [tN r] j P E := by
  refine a_run rfl ?_
  show f_is_standard [some (tN r), none] j _ _
  have hL := LN
  have hM := LM
  simp [f_is_standard]
  refine ⟨by omega, by omega, by omega, by omega, by rw [rngD_length]; omega, ?_⟩
  have e1 : ((r.length : Nat) : Int).toNat - 1 = r.length - 1 := by omega
  try rw [e1]
  refine wC_filter (L := List.range (r.length - 1)) (c := fun i => D.int (1 + (i : Nat))) (fun i => decide (gt r (i + 1) = gt r i + 1)) (fun i => D.int (1 + (i : Nat))) (fun i hi => ⟨_, rfl, ?_, fun _ => ?_⟩) ?_
  · have hi := List.mem_range.mp hi
    have c1 : (1 : Int) + (i : Nat) = ((i + 1 : Nat) : Int) := by omega
    have c2 : (1 : Int) + (i : Nat) - 1 = ((i : Nat) : Int) := by omega
    simp
    rw [c2, c1]
    refine ⟨_, ix_t (by omega), _, ix_t (by omega), ?_⟩
    simp
    omega
  · simp
  · have eq0 : eqLD (.lst (((List.range (r.length - 1)).filter fun i => decide (gt r (i + 1) = gt r i + 1)).map fun i => D.int (1 + (i : Nat)))) (.lst []) = some (.bl (isStd r)) := by
      unfold isStd
      cases h : (List.range (r.length - 1)).filter fun i => decide (gt r (i + 1) = gt r i + 1) with
      | nil => rfl
      | cons a t => show some (D.bl false) = _; simp
    simp [eq0]
    exact q
def odn (b : Nat) (only : Bool) : List (List Nat) := (ors b b).filter fun r => !only || isStd r
theorem odn_oL : ∀ b, b < 6 → 1 ≤ b → ∀ st : Bool, odn b st = oL b st := by decide +kernel
theorem w_all {n b : Nat} {only : Bool} (h1 : 1 ≤ b) (hb : b ≤ 5) (hn : b ≤ n) (h6 : n ≤ 6) (q : P (.lst ((exs n b only).map exP)) j) : WF F_all [.int (n : Nat), .int (b : Nat), .bl only] j P E := by
  refine a_run rfl ?_
  show f_all [some (.int (n : Nat)), some (.int (b : Nat)), some (.bl only), none, none, none, none] j _ _
  have hL := LN
  have hM := LM
  have om := ors_many b (by omega) b (by omega)
  have orl := ors_len (b := b) b
  have sm' := szs_many b (by omega) n (by omega)
  have mul := Nat.mul_le_mul sm' om
  simp [f_all]
  refine w_orders (by omega) ?_
  refine ⟨_, rfl, by rw [List.length_map]; omega, ?_⟩
  refine wC_filter (L := ors b b) (c := tN) (fun r => !only || isStd r) tN (fun r hr => ⟨_, rfl, ?_, fun _ => ?_⟩) ?_
  · have rl := orl r hr
    cases only with
    | false => simp [truD]
    | true =>
      simp [truD]
      refine w_is_std (by omega) ?_
      simp [truD]
  · simp
  · have el : odn b only = (ors b b).filter fun r => !only || isStd r := rfl
    rw [← el]
    have qe : (exs n b only).map exP = (szs b n).flatMap fun L => (odn b only).map fun O => exD L O := by
      rw [odn_oL b (by omega) h1, szs_lens]
      unfold exs
      rw [List.map_flatMap]
      congr 1
      funext L
      rw [List.map_map]; rfl
    rw [qe] at q
    have ol : (odn b only).length ≤ 720 := Nat.le_trans (List.length_filter_le _ _) om
    have mul2 := Nat.mul_le_mul sm' ol
    generalize odn b only = od at *
    simp
    refine w_sizes_f 8 b n h1 (by omega) hn h6 ?_
    refine ⟨_, rfl, ?_⟩
    generalize hz : szs b n = zs at *
    have zl : ∀ r ∈ zs, r.length = b := fun r hr => szs_len b n h1 r (by rw [hz]; exact hr)
    refine wL_inv (fun k m j' => j' = j ∧ ∃ x y, Is m [some (.int (n : Nat)), some (.int (b : Nat)), some (.bl only), some (.lst (od.map tN)), some (.lst ((zs.take k).flatMap fun L => od.map fun O => exD L O)), x, y]) ⟨rfl, none, none, rfl⟩ ?_ ?_
    · rintro k d m j' hd ⟨rfl, x, y, rfl⟩
      rw [List.getElem?_map] at hd
      obtain ⟨r, hr, rfl⟩ := Option.map_eq_some_iff.mp hd
      have hk := (List.getElem?_eq_some_iff.mp hr).1
      have mk : (k + 1) * od.length ≤ zs.length * od.length := Nat.mul_le_mul_right _ hk
      rw [Nat.add_mul, Nat.one_mul] at mk
      have hl : ((zs.take k).flatMap fun L => od.map fun O => exD L O).length = k * od.length := by
        rw [List.length_flatMap]
        have : ∀ k, k ≤ zs.length → ((zs.take k).map fun L => (od.map fun O => exD L O).length).sum = k * od.length := by
          intro k
          induction k with
          | zero => intro _; simp
          | succ k ih =>
            intro hk
            rw [List.take_succ_eq_append_getElem hk, List.map_append, List.sum_append, ih (by omega), Nat.add_mul]
            simp
        exact this k (by omega)
      have f2 := fm_take (g := fun L => od.map fun O => exD L O) hr
      refine ⟨_, rfl, ?_⟩
      simp
      refine ⟨by omega, ?_⟩
      refine wC_map (L := od) (c := tN) (fun r2 => exD r r2) (fun r hr => ⟨_, rfl, ?_⟩) ?_
      · simp [LN]
      · rw [f2]
        exact ⟨_, rfl, by rw [hl, List.length_map]; omega, rfl, _, _, rfl⟩
    · rintro m j' ⟨rfl, x, y, rfl⟩
      rw [List.length_map, List.take_length]
      simp
      exact q
end
section
variable {L O : List Nat} {j : Nat} {P : D → Nat → Prop} {E : Ex → Nat → Prop}
theorem exs_nil {n b : Nat} {st : Bool} (h2 : n < b) (h1 : 1 ≤ n) : exs n b st = [] := by
  obtain ⟨b, rfl⟩ : ∃ b', b = b' + 2 := ⟨b - 2, by omega⟩
  unfold exs
  rw [lens_eq, show n - (b + 1) = 0 by omega]; rfl
theorem le_sumE : ∀ {A : List Nat} {x : Nat}, x ∈ A → x ≤ A.sum
  | a :: r, x, h => by
    rw [List.sum_cons]
    rcases List.mem_cons.mp h with rfl | h
    · omega
    · have := le_sumE h; omega
theorem rep_row (h : IsX L O) (hk : O.length ≤ 6) (hs : L.sum ≤ 10 ^ 12) : ∃ x, reprB [exD L O] = some (.str x) := by
  have := h.len
  exact rep_ex (fun x hx => by have := le_sumE hx; omega) (fun x hx => by have := h.lt hx; omega) (by omega) (by omega)
theorem sz_exs : ∀ {Es : List (List Nat × List Nat)}, (∀ p ∈ Es, IsX p.1 p.2 ∧ p.2.length ≤ 6 ∧ p.1.sum ≤ 10 ^ 12) → shwL (Es.map exP) = true ∧ dpL (Es.map exP) ≤ 2 ∧ szL (Es.map exP) ≤ 900 * Es.length
  | [], _ => ⟨rfl, by decide, by decide⟩
  | e :: Es, hE => by
    obtain ⟨a1, a2, a3⟩ := sz_exs (Es := Es) fun x hx => hE x (List.mem_cons_of_mem _ hx)
    obtain ⟨h, hk, hs⟩ := hE e List.mem_cons_self
    have l2 := h.len
    refine ⟨?_, ?_, ?_⟩
    · show (shw (exD e.1 e.2) && shwL (Es.map exP)) = true
      rw [shw_ex (fun x hx => by have := le_sumE hx; omega) (fun x hx => by have := h.lt hx; omega), a1]; rfl
    · show max (dpD (exD e.1 e.2)) (dpL (Es.map exP)) ≤ 2
      rw [dp_ex]; omega
    · show szD (exD e.1 e.2) + 2 + szL (Es.map exP) ≤ _
      rw [sz_ex, List.length_cons]; omega
theorem rep_exs {Es : List (List Nat × List Nat)} (hE : ∀ p ∈ Es, IsX p.1 p.2 ∧ p.2.length ≤ 6 ∧ p.1.sum ≤ 10 ^ 12) (hl : Es.length ≤ 1000) : ∃ x, reprB [D.lst (Es.map exP)] = some (.str x) := by
  obtain ⟨a1, a2, a3⟩ := sz_exs hE
  obtain ⟨x, e⟩ := repr_ok (d := .lst (Es.map exP)) a1 (by show dpL (Es.map exP) + 1 ≤ 60; omega) (by show szL (Es.map exP) + 4 ≤ 1000000; omega)
  exact ⟨x, by simp [reprB, e]⟩
theorem exs_few : ∀ b, b < 6 → ∀ n, n < 7 → (szs b n).length * (fct b) ≤ 600 := by decide
theorem oL_few : ∀ b, b < 6 → ∀ st : Bool, (oL b st).length ≤ fct b := by decide +kernel
theorem exs_le {n b : Nat} {st : Bool} (hb : b ≤ 5) (hn : n ≤ 6) : (exs n b st).length ≤ 600 := by
  rw [exs_len, ← szs_lens]
  exact Nat.le_trans (Nat.mul_le_mul_left _ (oL_few b (by omega) st)) (exs_few b (by omega) n (by omega))
def rgn (len c : Nat) : Nat := if len = 0 then 0 else (len - 1) / c + 1
theorem rg_all : ∀ len, len < 601 → Builtin.Range.small 0 (len : Nat) (1 + (len / 40 : Nat)) = true ∧ Builtin.Range.rangeSize 0 (len : Nat) (1 + (len / 40 : Nat)) = ((rgn len (1 + len / 40) : Nat) : Int) := by decide +kernel
theorem rg_lt {len c k : Nat} (hc : 0 < c) (h : k < rgn len c) : k * c < len := by
  unfold rgn at h
  split at h
  · omega
  · have h2 : k ≤ (len - 1) / c := by omega
    have := Nat.le_trans (Nat.mul_le_mul_right c h2) (Nat.div_mul_le_self (len - 1) c)
    omega
theorem rep_intN {i : Int} (h : -(10 ^ 59) ≤ i ∧ i ≤ 10 ^ 59) : ∃ s, reprB [D.int i] = some (.str s) := by
  obtain ⟨x, e⟩ := repr_ok (d := .int i) (sm_of h.1 h.2) (by show (0 : Nat) ≤ 60; decide) (by show (70 : Nat) ≤ 1000000; decide)
  exact ⟨x, by simp [reprB, e]⟩
theorem neS {s : Str} : neD (.str s) (.str s) = some (.bl false) := by simp
theorem a_ir3 {fa fb fc : Ev Nat} {m : Sd} {PA : List D → Nat → Prop} {E : XP Nat} : iRng3D fa fb fc m j PA E = fa m j (fun d j1 => fb m j1 (fun d2 j2 => fc m j2 (fun d3 j3 => ∃ a b c n, d = .int a ∧ d2 = .int b ∧ d3 = .int c ∧ RgC a b c n ∧ PA (rngC a c n) j3) E) E) E := rfl
theorem w_small_right {n b : Nat} {st : Bool} (hn1 : 1 ≤ n) (hn : n ≤ 6) (h1 : 1 ≤ b) (hb : b ≤ 5) (q : P (.bl true) j) : WF F_small_right [.int (n : Nat), .int (b : Nat), .bl st] j P E := by
  refine a_run rfl ?_
  show f_small_right [some (.int (n : Nat)), some (.int (b : Nat)), some (.bl st), none, none, none] j _ _
  have hL := LN
  have hM := LM
  have yy := (ys_exs (n := n) (b := b) (st := st) (by omega) h1 (by omega)).yields
  have hE : ∀ p ∈ exs n b st, IsX p.1 p.2 ∧ p.2.length ≤ 6 ∧ p.1.sum ≤ 10 ^ 12 := fun p hp => by
    by_cases c : b ≤ n
    · obtain ⟨a1, a2, a3, a4⟩ := exs_isX (L := p.1) (O := p.2) h1 (by omega) c hp
      exact ⟨a1, by omega, by omega⟩
    · rw [exs_nil (by omega) hn1] at hp; cases hp
  have xl := exs_le (st := st) hb hn
  obtain ⟨y, hy⟩ := rep_exs hE (by omega)
  have hx : ∀ i L O, (exs n b st)[i]? = some (L, O) → b ≤ n ∧ IsX L O ∧ O.length ≤ 6 ∧ L.sum ≤ 10 ^ 12 := fun i L O h => by
    have hm := List.mem_of_getElem? h
    refine ⟨?_, hE _ hm⟩
    apply Classical.byContradiction
    intro c
    rw [exs_nil (by omega) hn1] at hm; cases hm
  simp only [f_small_right]
  refine wSeq (fun fl m' j' => fl = .next ∧ j' = j ∧ m' = [some (.int (n : Nat)), some (.int (b : Nat)), some (.bl st), some (.lst ((exs n b st).map exP)), none, none]) ?_ ?_
  · simp
    by_cases c : b ≤ n
    · refine .inr ⟨by omega, ?_⟩
      exact w_all h1 hb c hn ⟨rfl, rfl, rfl⟩
    · refine .inl ⟨by omega, ?_⟩
      rw [exs_nil (by omega) hn1]
      first | done | rfl | exact ⟨rfl, rfl, rfl⟩
  · rintro fl m' j' ⟨rfl, rfl, rfl⟩
    simp only [thenS]
    have fx : ∀ i L O, (exs n b st)[i]? = some (L, O) → ∀ {j : Nat} {P : D → Nat → Prop} {E : Ex → Nat → Prop}, P (exD L O) j → WF F_p_exchange_at [.int (n : Nat), .int (b : Nat), .int (i : Nat), .bl st] j P E := fun i L O h {j P E} q => by
      exact w_exchange_at (by omega) h1 (by omega) (hx i L O h).1 h q
    have fi : ∀ i L O, (exs n b st)[i]? = some (L, O) → ∀ {j : Nat} {P : D → Nat → Prop} {E : Ex → Nat → Prop}, P (.int (i : Nat)) j → WF F_p_exchange_index [exD L O, .bl st] j P E := fun i L O h {j P E} q => by
      exact w_exchange_index (by omega) h1 (by omega) (hx i L O h).1 h q
    generalize exs n b st = X at *
    simp
    refine wGl_items yy (by rw [List.length_map]; omega) ?_
    refine ⟨_, hy, _, rfl, _, hy, _, neS, _, rfl, ?_⟩
    rw [if_neg Bool.false_ne_true]
    have dv : fdivD (.int (X.length : Nat)) (.int 40) = some (.int ((X.length / 40 : Nat) : Int)) := by rw [div_i (by decide) (by decide)]; rfl
    obtain ⟨r1, r2⟩ := rg_all X.length (by omega)
    have rg : RgC 0 (X.length : Nat) (1 + (X.length / 40 : Nat)) (rgn X.length (1 + X.length / 40)) := ⟨by omega, by omega, r1, r2⟩
    rw [a_ir3]
    simp [dv]
    rw [Int.natCast_ediv] at rg
    refine ⟨_, rg, ?_⟩
    refine wL_inv (fun k m j2 => j2 = j' ∧ ∃ x, Is m [some (.int (n : Nat)), some (.int (b : Nat)), some (.bl st), some (.lst (X.map exP)), x, none]) ⟨rfl, none, rfl⟩ ?_ ?_
    · rintro k d m j2 hd ⟨rfl, x, rfl⟩
      have hk := (List.getElem?_eq_some_iff.mp hd).1
      rw [rngC_length] at hk
      rw [rngC_get hk] at hd
      cases hd
      have hi := rg_lt (by omega) hk
      have e40 : ((X.length : Nat) : Int) / 40 = ((X.length / 40 : Nat) : Int) := by omega
      have ei : (0 : Int) + (k : Nat) * (1 + ((X.length : Nat) : Int) / 40) = ((k * (1 + X.length / 40) : Nat) : Int) := by
        rw [e40, Int.zero_add, Int.natCast_mul, Int.natCast_add]; rfl
      rw [ei]
      generalize k * (1 + X.length / 40) = i at *
      obtain ⟨⟨L, O⟩, hp⟩ : ∃ p, X[i]? = some p := ⟨_, List.getElem?_eq_getElem hi⟩
      obtain ⟨c1, c2, c3, c4⟩ := hx i L O hp
      obtain ⟨s, hs⟩ := rep_row c2 c3 c4
      have ri : ∃ s, reprB [D.int (i : Nat)] = some (.str s) := rep_intN ⟨by omega, by omega⟩
      obtain ⟨s2, hs2⟩ := ri
      have ix : idxD (.lst (X.map exP)) (.int (i : Nat)) = some (exD L O) := idx_l (by rw [List.getElem?_map, hp]; rfl)
      refine ⟨_, rfl, ?_⟩
      simp
      refine fx i L O hp ?_
      refine ⟨_, hs, _, rfl, _, rfl, _, ix, _, hs, _, neS, _, rfl, ?_⟩
      rw [if_neg Bool.false_ne_true]
      simp [ix]
      refine fi i L O hp ?_
      refine ⟨_, hs2, _, rfl, _, hs2, _, neS, _, rfl, ?_⟩
      rw [if_neg Bool.false_ne_true]
      exact ⟨rfl, _, rfl⟩
    · rintro m j2 ⟨rfl, x, rfl⟩
      simp
      exact q
end
section
/-! ### order of rows -/
def pN (A : List Nat) : List PyData := A.map fun x => PyData.int (x : Nat)
theorem pyL_N : ∀ A : List Nat, pyL (dN A) = some (pN A)
  | [] => rfl
  | a :: r => by
    show pyL (.int (a : Nat) :: dN r) = _
    unfold pyL
    rw [pyL_N r]; rfl
theorem py_ex (L O : List Nat) : py (exD L O) = some (.tuple [.tuple (pN L), .tuple (pN O)]) := by
  have h : ∀ A : List Nat, py (tN A) = some (.tuple (pN A)) := fun A => by
    show py (.tup (dN A)) = _
    unfold py
    rw [pyL_N]
  show py (.tup [tN L, tN O]) = _
  unfold py
  unfold pyL
  rw [h]
  unfold pyL
  rw [h]
  unfold pyL
  rfl
theorem pN_d : ∀ A : List Nat, PyData.depthAll (pN A) = 0 ∧ PyData.hasDictAll (pN A) = false
  | [] => ⟨rfl, rfl⟩
  | a :: r => by
    obtain ⟨h1, h2⟩ := pN_d r
    show PyData.depthAll (.int (a : Nat) :: pN r) = 0 ∧ PyData.hasDictAll (.int (a : Nat) :: pN r) = false
    unfold PyData.depthAll PyData.hasDictAll
    rw [h1, h2]
    exact ⟨rfl, rfl⟩
theorem pN_a : ∀ A B : List Nat, PySem.W.alikeAll (pN A) (pN B) = true
  | [], _ => by unfold pN PySem.W.alikeAll; rfl
  | a :: r, [] => by unfold pN; simp only [List.map_cons, List.map_nil]; unfold PySem.W.alikeAll; rfl
  | a :: r, b :: s => by
    show PySem.W.alikeAll (.int (a : Nat) :: pN r) (.int (b : Nat) :: pN s) = true
    unfold PySem.W.alikeAll
    rw [pN_a r s]
    unfold PySem.W.alike
    rfl
theorem tk_cons (a : Nat) (r : List Nat) : PySem.W.keyToksAll (pN (a :: r)) = .inl 1 :: .inl ((a : Nat) : Int) :: PySem.W.keyToksAll (pN r) := by
  show PySem.W.keyToksAll (.int (a : Nat) :: pN r) = _
  rw [PySem.W.toks_all_cons]
  unfold PySem.W.keyToks
  rfl
theorem tk_lt : ∀ (A B : List Nat), A.length = B.length → A < B → ∀ X Y, PyProof.Rows.lexLt PyProof.Rows.itemOrd (PySem.W.keyToksAll (pN A) ++ X) (PySem.W.keyToksAll (pN B) ++ Y) = true
  | [], [], _, h => by simp at h
  | [], b :: s, e, _ => by simp at e
  | a :: r, [], e, _ => by simp at e
  | a :: r, b :: s, e, h => fun X Y => by
    rw [tk_cons, tk_cons]
    rcases List.cons_lt_cons_iff.mp h with h1 | ⟨h1, h2⟩
    · refine (PySem.W.lex_pre [.inl 1] _ _).trans ?_
      refine (PyProof.Rows.lex_diff (O := PyProof.Rows.itemOrd) (x := .inl ((a : Nat) : Int)) (y := .inl ((b : Nat) : Int)) (fun z => by injection z with z; omega)).trans ?_
      show decide (((a : Nat) : Int) < ((b : Nat) : Int)) = true
      exact decide_eq_true (by omega)
    · subst h1
      refine (PySem.W.lex_pre [.inl 1, .inl ((a : Nat) : Int)] _ _).trans ?_
      exact tk_lt r s (by simpa using e) h2 X Y
theorem ltP_ex {L O L' O' : List Nat} (h1 : L.length = L'.length) (h2 : O.length = O'.length) (h : L < L' ∨ L = L' ∧ O < O') : ltPD (exD L O) (exD L' O') = some (.bl true) := by
  have d1 : ∀ L O : List Nat, (PyData.tuple [.tuple (pN L), .tuple (pN O)]).depth ≤ 60 ∧ (PyData.tuple [.tuple (pN L), .tuple (pN O)]).hasDict = false := fun L O => by
    obtain ⟨a1, a2⟩ := pN_d L
    obtain ⟨b1, b2⟩ := pN_d O
    constructor
    · show PyData.depthAll [.tuple (pN L), .tuple (pN O)] + 1 ≤ 60
      simp [PyData.depthAll, PyData.depth, a1, b1]
    · show PyData.hasDictAll [.tuple (pN L), .tuple (pN O)] = false
      simp [PyData.hasDictAll, PyData.hasDict, a2, b2]
  have al : PySem.W.alike (.tuple [.tuple (pN L), .tuple (pN O)]) (.tuple [.tuple (pN L'), .tuple (pN O')]) = true := by
    simp [PySem.W.alike, PySem.W.alikeAll, pN_a]
  have tk : ∀ L O : List Nat, PySem.W.keyToks (.tuple [.tuple (pN L), .tuple (pN O)]) = .inl 1 :: (PySem.W.keyToksAll (pN L) ++ (.inl 1 :: (PySem.W.keyToksAll (pN O) ++ [.inl 0]))) := fun L O => by
    simp [PySem.W.keyToks, PySem.W.keyToksAll]
  have lt : PySem.W.dataLt (.tuple [.tuple (pN L), .tuple (pN O)]) (.tuple [.tuple (pN L'), .tuple (pN O')]) = true := by
    unfold PySem.W.dataLt
    rw [tk, tk]
    refine (PySem.W.lex_pre [.inl 1] _ _).trans ?_
    rcases h with h | ⟨rfl, h⟩
    · exact tk_lt L L' h1 h _ _
    · refine (PySem.W.lex_pre (PySem.W.keyToksAll (pN L)) _ _).trans ?_
      refine (PySem.W.lex_pre [.inl 1] _ _).trans ?_
      exact tk_lt O O' h2 h _ _
  unfold ltPD
  rw [py_ex, py_ex]
  simp only
  rw [if_pos ⟨al, (fun z => by cases z), (d1 L O).1, (d1 L O).2, (d1 L' O').2⟩, lt]
end
section
variable {L O : List Nat} {j : Nat} {P : D → Nat → Prop} {E : Ex → Nat → Prop}
theorem rep_big {i : Int} (h : -(10 ^ 70) < i ∧ i < 10 ^ 70) : ∃ y, reprB [.int i] = some (.str y) := by
  have len : (PyData.shown (.int i)).length ≤ 100 := by
    have e := int_text_length_le10 (a := i) (k := 70) (by decide) (by omega)
    show (Str.ofString (toString i)).length ≤ 100
    rw [PySem.ofString_length]
    exact Nat.le_trans e (by decide)
  have shw : PyData.showable (.int i) = true := by
    show decide _ = true
    rw [decide_eq_true_eq]
    by_cases c : i.natAbs = 0
    · rw [c]; decide
    · have h1 : i.natAbs.log2 < 240 := (Nat.log2_lt c).mpr (Nat.lt_of_lt_of_le (m := 10 ^ 70) (by omega) (by decide))
      omega
  have e0 : py (.int i) = some (.int i) := by unfold py; rfl
  refine ⟨PyData.shown (.int i), ?_⟩
  have hL := LN
  have e2 : (PyData.shown (.int i)).length ≤ LINE := by omega
  show (match reprD _ with | some x => some (D.str x) | none => none) = _
  unfold reprD
  rw [e0]
  have e3 : (PyData.int i).depth ≤ 60 := by simp [PyData.depth]
  simp only [shw, e2, e3, decide_true, Bool.and_self, if_true]
theorem w_drawG {k : Int} (hk : 0 < k) (hs : k ≤ 10 ^ 199) (hn : j < NMAX) (q : ∀ v : Nat, (v : Int) < k → P (.int (v : Nat)) (j + 1)) : WF drawF [.jar, .int k] j P E :=
  ⟨k, rfl, hk, sg_of (by omega) hs, hn, fun v v0 v1 => by
    obtain ⟨i, rfl⟩ := Int.eq_ofNat_of_zero_le v0
    exact q i v1⟩
theorem cho_61 {t s : Nat} (ht : t ≤ 10 ^ 12) (hs : s ≤ 5) : cho t s ≤ 10 ^ 60 := by
  have c1 : chs t s ≤ (10 ^ 12) ^ s := Nat.le_trans (chs_le _ _) (Nat.pow_le_pow_left ht _)
  have c2 : (10 ^ 12) ^ s ≤ (10 ^ 12) ^ 5 := Nat.pow_le_pow_right (by decide) hs
  have c3 : (10 ^ 12) ^ 5 ≤ 10 ^ 60 := by decide
  rw [← chs_cho]
  omega
theorem oL_720 : ∀ b, b < 7 → ∀ st : Bool, (oL b st).length ≤ 720 := by decide +kernel
theorem exs_64 {n b : Nat} {st : Bool} (hN : n ≤ 10 ^ 12) (h1 : 1 ≤ b) (hb : b ≤ 6) (hn : b ≤ n) : 0 < (exs n b st).length ∧ (exs n b st).length ≤ 10 ^ 63 := by
  have c := cho_61 (t := n - 1) (s := b - 1) (by omega) (by omega)
  have o := oL_720 b (by omega) st
  rw [exs_len, lens_len b n h1 hn]
  refine ⟨Nat.mul_pos (cho_pos _ _ (by omega)) (oL_ok b (by omega) st (by omega)).1, ?_⟩
  exact Nat.le_trans (Nat.mul_le_mul c o) (by decide)
theorem oL_isStd : ∀ b, b < 7 → ∀ O ∈ oL b true, isStd O = true := by decide +kernel
theorem min_pos {A : List Nat} (h : 0 < A.length) (hp : ∀ x ∈ A, 0 < x) : ∃ m : Nat, minT [tN A] = some (.int (m : Nat)) ∧ 0 < m := by
  cases A with
  | nil => simp at h
  | cons a r =>
    have e : minT [tN (a :: r)] = some (.int (minL (a : Nat) (zN r))) := by
      show (match ints? (dN (a :: r)) with | some (a :: r) => some (D.int (minL a r)) | _ => none) = _
      rw [show dN (a :: r) = ((a : Int) :: zN r).map D.int by unfold dN zN; simp, ints?_map]
    obtain ⟨m1, _⟩ := minL_spec (zN r) (a : Nat)
    have : ∃ x ∈ a :: r, minL (a : Nat) (zN r) = (x : Nat) := by
      rcases List.mem_cons.mp m1 with m1 | m1
      · exact ⟨a, by simp, m1⟩
      · obtain ⟨x, hx, ex⟩ := mem_z.mp m1
        exact ⟨x, List.mem_cons_of_mem _ hx, ex⟩
    obtain ⟨x, hx, ex⟩ := this
    rw [ex] at e
    exact ⟨x, e, hp x hx⟩
end
section
variable {L O : List Nat} {j : Nat} {P : D → Nat → Prop} {E : Ex → Nat → Prop}
def R43 (j0 : Nat) (r : Sd) : Fl → Sd → Nat → Prop := fun fl m j => fl = .next ∧ j = j0 ∧ ∃ x y, m = r ++ [x, y, none]
theorem w_large_right {n b : Nat} {st : Bool} (hN : n ≤ 10 ^ 12) (h1 : 1 ≤ b) (hb : b ≤ 6) (hn : b ≤ n) (hj : j + 1 < NMAX) (q : P (.bl true) (j + 1)) : WF F_large_right [.jar, .int (n : Nat), .int (b : Nat), .bl st] j P E := by
  refine a_run rfl ?_
  show f_large_right [some .jar, some (.int (n : Nat)), some (.int (b : Nat)), some (.bl st), none, none, none, none] j _ _
  have hL := LN
  have hM := LM
  have yy := (ys_exs (n := n) (b := b) (st := st) hN h1 hb).yields
  obtain ⟨x0, x64⟩ := exs_64 (st := st) hN h1 hb hn
  have fx : ∀ i L O, (exs n b st)[i]? = some (L, O) → ∀ {j : Nat} {P : D → Nat → Prop} {E : Ex → Nat → Prop}, P (exD L O) j → WF F_p_exchange_at [.int (n : Nat), .int (b : Nat), .int (i : Nat), .bl st] j P E := fun i L O h {j P E} q => w_exchange_at hN h1 hb hn h q
  have fi : ∀ i L O, (exs n b st)[i]? = some (L, O) → ∀ {j : Nat} {P : D → Nat → Prop} {E : Ex → Nat → Prop}, P (.int (i : Nat)) j → WF F_p_exchange_index [exD L O, .bl st] j P E := fun i L O h {j P E} q => w_exchange_index hN h1 hb hn h q
  have hx : ∀ i L O, (exs n b st)[i]? = some (L, O) → IsX L O ∧ L.length = b ∧ O.length = b ∧ L.sum = n ∧ (st = true → isStd O = true) := fun i L O h => by
    obtain ⟨a1, a2, a3, a4⟩ := exs_isX h1 hb hn (List.mem_of_getElem? h)
    refine ⟨a1, a2, a3, a4, fun e => ?_⟩
    subst e
    exact oL_isStd b (by omega) O (List.mem_of_getElem? (exs_of h).2)
  have nx : ∀ i L O L' O', (exs n b st)[i]? = some (L, O) → (exs n b st)[i + 1]? = some (L', O') → ltPD (exD L O) (exD L' O') = some (.bl true) := fun i L O L' O' h h' => by
    obtain ⟨_, a2, a3, _⟩ := hx i L O h
    obtain ⟨_, b2, b3, _⟩ := hx (i + 1) L' O' h'
    exact ltP_ex (by omega) (by omega) (exs_next h h')
  have lc : ∀ {j : Nat} {P : D → Nat → Prop} {E : Ex → Nat → Prop}, P (.int ((exs n b st).length : Nat)) j → WF F_count [.int (n : Nat), .int (b : Nat), .bl st] j P E := fun {j P E} q => w_lcount hn hN h1 hb q
  have rb : ∀ i, i < (exs n b st).length → ∃ y, reprB [.int ((i : Nat) : Int)] = some (.str y) := fun i hi => rep_big ⟨by omega, by omega⟩
  generalize exs n b st = X at *
  unfold f_large_right
  simp
  refine lc ?_
  refine ⟨_, rfl, ?_⟩
  refine ⟨_, rfl, _, rfl, ?_⟩
  refine ⟨_, rfl, ?_⟩
  refine w_drawG (j := j) (k := ((X.length : Nat) : Int)) (by omega) (by omega) (by omega) fun v hv => ?_
  refine ⟨by omega, _, rfl, ?_⟩
  have body : ∀ i, i < X.length → ∃ L O, X[i]? = some (L, O) := fun i hi => ⟨_, _, List.getElem?_eq_getElem hi⟩
  refine wL_inv (fun k m j' => j' = j + 1 ∧ ∃ x y, m = [some .jar, some (.int (n : Nat)), some (.int (b : Nat)), some (.bl st), some (.int (X.length : Nat)), x, y, none]) ⟨rfl, _, _, rfl⟩ ?_ ?_
  · rintro k d m j' hd ⟨rfl, x, y, rfl⟩
    obtain ⟨i, hi, rfl⟩ : ∃ i, i < X.length ∧ d = .int ((i : Nat) : Int) := by
      match k, hd with
      | 0, hd => exact ⟨X.length - 1, by omega, by simp at hd; rw [← hd]; congr 1; omega⟩
      | 1, hd => exact ⟨v, by omega, by simp at hd; exact hd.symm⟩
    obtain ⟨L, O, hp⟩ := body i hi
    obtain ⟨hX, lL, lO, sL, sd⟩ := hx i L O hp
    obtain ⟨y2, hy2⟩ := rb i hi
    obtain ⟨m0, em0, hm0⟩ := min_pos (A := L) (by omega) hX.pos
    have so := sort_tN (A := O) (B := List.range b) (by rw [← lO]; exact hX.perm.symm) (List.pairwise_lt_range.imp fun h => Nat.le_of_lt h)
    let rs : Sd := [some .jar, some (.int (n : Nat)), some (.int (b : Nat)), some (.bl st), some (.int (X.length : Nat)), some (.int (i : Nat)), some (exD L O), none]
    refine ⟨_, rfl, ?_⟩
    refine wSeq (fun fl m' j' => fl = .next ∧ j' = j + 1 ∧ m' = rs) ?_ ?_
    · simp
      refine fx i L O hp ?_
      exact ⟨rfl, rfl, rfl⟩
    rintro fl m' j' ⟨rfl, rfl, rfl⟩
    simp only [thenS, rs]
    refine wSeq (fun fl m' j' => fl = .next ∧ j' = j + 1 ∧ m' = rs) ?_ ?_
    · simp [so]
      refine ⟨by omega, by omega, by omega, by omega, ?_⟩
      rw [rng_N]
      refine ⟨by rw [dN_len, List.length_range]; omega, _, ne_lN, ?_, rfl⟩
      simp
    rintro fl m' j' ⟨rfl, rfl, rfl⟩
    simp only [thenS, rs]
    refine wSeq (fun fl m' j' => fl = .next ∧ j' = j + 1 ∧ m' = rs) ?_ ?_
    · simp [em0]
      refine ⟨by omega, ?_⟩
      cases st with
      | false => exact .inl ⟨rfl, rfl⟩
      | true =>
        refine .inr ⟨rfl, ?_⟩
        refine w_is_std (by omega) ?_
        rw [sd rfl]
        refine ⟨true, rfl, ?_⟩
        exact ⟨rfl, rfl, rfl⟩
    rintro fl m' j' ⟨rfl, rfl, rfl⟩
    simp only [thenS, rs]
    refine wSeq (fun fl m' j' => fl = .next ∧ j' = j + 1 ∧ m' = rs) ?_ ?_
    · simp
      refine fi i L O hp ?_
      refine ⟨_, hy2, _, rfl, _, hy2, _, neS, _, rfl, ?_⟩
      rw [if_neg Bool.false_ne_true]
      exact ⟨rfl, rfl, rfl⟩
    rintro fl m' j' ⟨rfl, rfl, rfl⟩
    simp only [thenS, rs]
    by_cases c : i + 1 < X.length
    · have c2 : ((i : Nat) : Int) + 1 < ((X.length : Nat) : Int) := by omega
      obtain ⟨L', O', hp'⟩ := body (i + 1) c
      have hlt := nx i L O L' O' hp hp'
      simp [c2]
      first | rw [show ((i : Nat) : Int) + 1 = ((i + 1 : Nat) : Int) by omega] | skip
      refine fx (i + 1) L' O' hp' ?_
      refine ⟨_, hlt, _, rfl, ?_⟩
      exact ⟨rfl, _, _, rfl⟩
    · have c2 : ¬ (((i : Nat) : Int) + 1 < ((X.length : Nat) : Int)) := by omega
      simp [c2]
      try exact ⟨rfl, _, _, rfl⟩
  · rintro m j' ⟨rfl, x, y, rfl⟩
    simp
    refine wG_items yy (fun k => [some .jar, some (.int (n : Nat)), some (.int (b : Nat)), some (.bl st), some (.int (X.length : Nat)), x, prv (fun q => (X.map exP)[q]?) y k, some (.int (k : Nat))]) (fun k j' => j' = j + 1 ∧ k < 3) rfl ⟨rfl, by omega⟩ ?_ ?_
    · rintro k d j' hd ⟨rfl, hk⟩
      have hd0 := hd
      rw [List.getElem?_map] at hd
      obtain ⟨⟨L, O⟩, hp, rfl⟩ := Option.map_eq_some_iff.mp hd
      obtain ⟨hX, lL, lO, sL, sd⟩ := hx k L O hp
      obtain ⟨y2, hy2⟩ := rep_row hX (by omega) (by omega)
      have hkx := (List.getElem?_eq_some_iff.mp hp).1
      refine ⟨by omega, ?_⟩
      simp
      refine fx k L O hp ?_
      refine ⟨_, hy2, _, rfl, _, hy2, _, neS, _, rfl, ?_⟩
      rw [if_neg Bool.false_ne_true]
      refine ⟨_, rfl, _, rfl, _, rfl, _, rfl, _, rfl, ?_⟩
      by_cases c : k = 2
      · subst c
        have em : minB [.int 3, .int ((X.length : Nat) : Int)] = some (.int 3) := by
          rw [min_i]; congr 2; split <;> omega
        rw [if_pos (by decide)]
        refine ⟨_, rfl, _, rfl, _, em, _, rfl, ?_⟩
        exact q
      · rw [if_neg (by simp; omega)]
        refine ⟨?_, rfl, by omega⟩
        show _ = [_, _, _, _, _, _, (X.map exP)[k]?, _]
        rw [hd0]
    · rintro j' ⟨rfl, hk⟩
      rw [List.length_map] at hk ⊢
      have em : minB [.int 3, .int ((X.length : Nat) : Int)] = some (.int ((X.length : Nat) : Int)) := by
        rw [min_i]; congr 2; split <;> omega
      simp [thenS, em]
      first | done | exact q
end
theorem law_holds : ∀ j : Nat, Few j → f_law (Mp.m0 N_law.length) j (fun l _ _ => l = .ret (.bl true)) xNo := by
  intro j hj
  show f_law [none, some .jar, none, none, none, none, none] j _ _
  have hL := LN
  have hM := LM
  have hN : NMAX = 1000000000 := rfl
  have hj : j ≤ 1000000 := hj
  have e12 : powD (.int 10) (.int 12) = some (.int 1000000000000) := rfl
  have md : ∀ k : Nat, modD (.int (k : Nat)) (.int 2) = some (.int ((k % 2 : Nat) : Int)) := fun k => by rw [mod_i (by decide)]; rfl
  have eb : ∀ k : Nat, eqD (.int ((k % 2 : Nat) : Int)) (.int 1) = some (.bl (decide (k % 2 = 1))) := fun k => by
    show some (D.bl (decide _)) = _
    congr 2
    exact decide_eq_decide.mpr ⟨fun h => by omega, fun h => by omega⟩
  simp only [f_law, a_sseq, a_sfor, a_ir1, a_c]
  refine ⟨4, rfl, by omega, by omega, ?_⟩
  refine wL_inv (fun k m j' => j' ≤ j + 10 * k ∧ ∃ a, Is m [none, some .jar, a, none, none, none, none]) ⟨by omega, none, rfl⟩ ?_ ?_
  · rintro k dd m j1 hd ⟨hj1, a, rfl⟩
    obtain ⟨hlt, rfl⟩ := dN_at (O := List.range 4) (by rw [← rng_N]; exact hd)
    rw [List.length_range] at hlt
    rw [gt_range hlt]
    refine ⟨_, rfl, ?_⟩
    simp
    refine w_draw (k := 6) (by decide) (by decide) (by omega) fun x hx => ?_
    refine ⟨_, rfl, _, rfl, ?_⟩
    refine w_draw (k := 5) (j := j1 + 1) (by decide) (by decide) (by omega) fun y hy => ?_
    have ex : (1 : Int) + (x : Nat) = ((1 + x : Nat) : Int) := by push_cast; rfl
    have ey : (1 : Int) + (y : Nat) = ((1 + y : Nat) : Int) := by push_cast; rfl
    refine ⟨_, rfl, _, rfl, _, md k, _, eb k, ?_⟩
    rw [ex, ey]
    refine w_small_right (by omega) (by omega) (by omega) (by omega) ?_
    refine ⟨true, rfl, ?_⟩
    exact ⟨by omega, _, rfl⟩
  · rintro m j1 ⟨hj1, a, rfl⟩
    rw [rngD_length] at hj1
    simp only [thenS, a_sseq, a_sfor, a_ir1, a_c]
    refine ⟨4, rfl, by omega, by omega, ?_⟩
    refine wL_inv (fun k m j' => j' ≤ j1 + 10 * k ∧ ∃ a b c, Is m [none, some .jar, a, b, c, none, none]) ⟨by omega, _, _, _, rfl⟩ ?_ ?_
    · rintro k dd m j2 hd ⟨hj2, a, b, c, rfl⟩
      obtain ⟨hlt, rfl⟩ := dN_at (O := List.range 4) (by rw [← rng_N]; exact hd)
      rw [List.length_range] at hlt
      rw [gt_range hlt]
      refine ⟨_, rfl, ?_⟩
      obtain ⟨mo, hm1, hm2, hm3⟩ : ∃ mo : Nat, idxD (.lst [.int 4, .int 4, .int 6, .int 6]) (.int ((k : Nat) : Int)) = some (.int (mo : Nat)) ∧ 1 ≤ mo ∧ mo ≤ 6 := by
        match k, hlt with
        | 0, _ => exact ⟨4, rfl, by omega, by omega⟩
        | 1, _ => exact ⟨4, rfl, by omega, by omega⟩
        | 2, _ => exact ⟨6, rfl, by omega, by omega⟩
        | 3, _ => exact ⟨6, rfl, by omega, by omega⟩
      refine wSeq (fun fl m' j' => fl = .next ∧ j' = j2 + 1 ∧ ∃ x : Nat, x < mo ∧ m' = [none, some .jar, some (.int (k : Nat)), some (.int ((1 + x : Nat) : Int)), c, none, none]) ?_ ?_
      · simp [hm1]
        refine ⟨by omega, ?_⟩
        refine w_draw (k := (mo : Nat)) (by omega) (by omega) (by omega) fun x hx => ?_
        refine ⟨_, rfl, rfl, rfl, x, by omega, ?_⟩
        push_cast; rfl
      rintro fl m' j' ⟨rfl, rfl, x, hx, rfl⟩
      simp only [thenS]
      refine wSeq (fun fl m' j' => fl = .next ∧ j' = j2 + 1 + 1 ∧ ∃ y : Nat, y < 999999999992 ∧ m' = [none, some .jar, some (.int (k : Nat)), some (.int ((1 + x : Nat) : Int)), some (.int ((1 + x + y : Nat) : Int)), none, none]) ?_ ?_
      · simp [e12]
        refine w_draw (k := 999999999992) (by omega) (by omega) (by omega) fun y hy => ?_
        refine ⟨_, rfl, rfl, rfl, y, by omega, ?_⟩
        push_cast; rfl
      rintro fl m' j' ⟨rfl, rfl, y, hy, rfl⟩
      simp only [thenS]
      simp [md, eb]
      refine w_large_right (n := 1 + x + y) (b := 1 + x) (by omega) (by omega) (by omega) (by omega) (by omega) ?_
      refine ⟨true, rfl, ?_⟩
      exact ⟨by omega, _, _, _, rfl⟩
    · rintro m j2 ⟨hj2, a, b, c, rfl⟩
      rw [rngD_length] at hj2
      have x1 : (exs 4 2 false)[1]? = some ([1, 3], [1, 0]) := by decide
      have yy := (ys_exs (n := 2) (b := 2) (st := false) (by omega) (by omega) (by omega)).yields
      have q1 : eqD (.lst [exD [1, 3] [1, 0], exD [1, 3] [1, 0]]) (.lst [exD [1, 3] [1, 0], exD [1, 3] [1, 0]]) = some (.bl true) := rfl
      have q2 : eqD (.lst ((exs 2 2 false).map exP)) (.lst ((exs 2 2 false).map exP)) = some (.bl true) := by rfl
      simp only [thenS]
      refine wSeq (fun fl m' j' => fl = .next ∧ j' = j2 ∧ m' = [none, some .jar, a, b, c, some (.lst [exD [1, 3] [1, 0], exD [1, 3] [1, 0]]), none]) ?_ ?_
      · simp
        refine w_exchange_at (n := 4) (b := 2) (i := 1) (by omega) (by omega) (by omega) (by omega) x1 ?_
        refine w_exchange_at (n := 4) (b := 2) (i := 1) (by omega) (by omega) (by omega) (by omega) x1 ?_
        exact ⟨by omega, rfl, rfl, rfl⟩
      rintro fl m' j' ⟨rfl, rfl, rfl⟩
      simp only [thenS]
      simp
      refine ⟨by omega, by omega, _, rfl, _, q1, .inr ⟨rfl, ?_⟩⟩
      refine wGl_items yy (by decide) ?_
      refine w_all (n := 2) (b := 2) (only := false) (by omega) (by omega) (by omega) (by omega) ?_
      exact ⟨_, q2, rfl⟩

end Lw
namespace Lw
open PySem PySem.Spec L2 Mp
open PyProof.Rows hiding St

theorem ok_law {P : Program} {w : World} {K : PySem.W.Frag} {mg : Str → Option Value} {base : Heap} {cl xc : Nat → Addr} {f fo : Addr} {fd fdo : FuncData} (hB : Blt mg) (hC : Cst mg) (C_all : ∀ R, Cal (jsND K cl xc xfT R) P w mg base 10 "_law_all" 3 F_all) (C_large_right : ∀ R, Cal (jsND K cl xc xfT R) P w mg base 32 "_law_large_right" 4 F_large_right) (C_roll : ∀ R, Cal (jsND K cl xc xfT R) P w mg base 1 "_law_roll" 2 drawF) (C_small_right : ∀ R, Cal (jsND K cl xc xfT R) P w mg base 32 "_law_small_right" 3 F_small_right) (C_p_exchange_at : ∀ R, CalK (jsND K cl xc xfT R) P w mg base 12 "exchange_at" 3 "standard" (.bl false) F_p_exchange_at) (C_p_walk_exchanges : ∀ R, CalYK (jsND K cl xc xfT R) P w mg base 29 "walk_exchanges" 2 "standard" (.bl false) 5 y_p_walk_exchanges)  (F : L2.Fun K "law" "law" st_law f fd)
    (FO : FnG P w K mg base CX0 1 fo fdo ["_law_script"] (spOpenG (jsND K cl xc xfT) Few K)) (mo : mg "_law_opened" = some (.ref fo)) (ko : PySem.W.keepIn K (.ref fo) = true) (bo : Binds K fdo ["_law_script"] []) : FnG P w K mg base CX0 33 f fd ["_law_script"] (spLaw K) := by
  refine fnG_sp F sc_law (fun vs H Q E h => ?_) (fun cdv A outer s H vs Q E hr hgd h => ⟨_, pss_cons (ps_set (i := 1) sc_law.nd rfl (by first | exact Or.inl rfl | exact Or.inr rfl) (pe_callG FO (hr.mono (by decide)) hgd rfl mo ko bo .nil pass0 (pa_cons (pv 0) pa_nil) (by decide) rfl rfl))
      (pss_ex (t := fun RB : Addr × Bs => rdS (jsND K cl xc xfT RB.1) RB.2 M_law W0 f_law) fun RB => b_law hB hC (C_all _) (C_large_right _) (C_roll _) (C_small_right _) (C_p_exchange_at _) (C_p_walk_exchanges _)  hr hgd), law_pureG (fun _ => rfl) (by decide) (by decide) law_holds h⟩)
  obtain ⟨_, _, rfl, _⟩ := h
  rfl


theorem all_mk {P : Program} {w : World} {K : PySem.W.Frag} {h : Heap} {mg : Str → Option Value} {fa f0 f1 f2 f3 f4 f5 f6 f7 f8 f9 f10 f11 f12 f13 f14 f15 f16 f17 f18 f19 f20 f21 f22 f23 : Addr} (X : K.In h) (G : h.Ns mainGlobals mg) (hfa : mg "law" = some (.ref fa))
    {od0 od1 od2 od3 od4 od5 od6 od7 od8 od9 od10 od11 od12 od13 od14 od15 od16 od17 od18 od19 od20 od21 od22 od23 an0 an1 an2 an3 an4 an5 an6 an7 an8 an9 an10 an11 an12 an13 an14 an15 an16 an17 an18 an19 an20 an21 an22 an23 : Option Addr} {sl0 sl1 sl2 sl3 sl4 sl5 sl6 sl7 sl8 sl9 sl10 sl11 sl12 sl13 sl14 sl15 sl16 sl17 sl18 sl19 sl20 sl21 sl22 sl23 : Array (Option Value)} {oc0 dc0 pm0 cd0 ct0 kV0 oc1 dc1 pm1 cd1 ct1 kV1 oc2 dc2 pm2 cd2 ct2 kV2 oc3 dc3 pm3 cd3 ct3 kV3 oc4 dc4 pm4 cd4 ct4 kV4 oc5 dc5 pm5 cd5 ct5 kV5 oc6 dc6 pm6 cd6 ct6 kV6 oc7 dc7 pm7 cd7 ct7 kV7 oc8 dc8 pm8 cd8 ct8 oc9 dc9 pm9 cd9 ct9 kV9 oc10 dc10 pm10 cd10 ct10 kV10 oc11 dc11 pm11 cd11 ct11 kV11 oc12 dc12 pm12 cd12 ct12 kV12 oc13 dc13 pm13 cd13 ct13 kV13 oc14 dc14 pm14 cd14 ct14 kV14 oc15 dc15 pm15 cd15 ct15 oc16 dc16 pm16 cd16 ct16 kV16 oc17 dc17 pm17 cd17 ct17 kV17 oc18 dc18 pm18 cd18 ct18 oc19 dc19 pm19 cd19 ct19 kV19 oc20 dc20 pm20 cd20 ct20 kV20 oc21 dc21 pm21 cd21 ct21 kV21 oc22 dc22 pm22 cd22 ct22 kV22 oc23 dc23 pm23 cd23 ct23 kV23 : Value} {KD8 KD15 KD18 : Addr} (sm0 : K.lookup sysModules = none)
        (a0 : PySem.W.nsIn K mainGlobals "_law_opened" = some (some (.ref f0))) (l0 : K.lookup f0 = some ⟨oc0, od0, .func (PySem.W.fnOf "_law_opened" "_law_opened" (defArgs st_opened) (defBody st_opened) (defScope st_opened) .none kV0 dc0 pm0 an0 cd0 ct0), sl0⟩) (c0 : PySem.W.codeIn K cd0 "_law_opened" = true) (k0 : PySem.W.keepIn K (.ref f0) = true)
    (a1 : PySem.W.nsIn K mainGlobals "_law_roll" = some (some (.ref f1))) (l1 : K.lookup f1 = some ⟨oc1, od1, .func (PySem.W.fnOf "_law_roll" "_law_roll" (defArgs st_roll) (defBody st_roll) (defScope st_roll) .none kV1 dc1 pm1 an1 cd1 ct1), sl1⟩) (c1 : PySem.W.codeIn K cd1 "_law_roll" = true) (k1 : PySem.W.keepIn K (.ref f1) = true)
    (a2 : PySem.W.nsIn K mainGlobals "factorial" = some (some (.ref f2))) (l2 : K.lookup f2 = some ⟨oc2, od2, .func (PySem.W.fnOf "factorial" "factorial" (defArgs st_p_factorial) (defBody st_p_factorial) (defScope st_p_factorial) .none kV2 dc2 pm2 an2 cd2 ct2), sl2⟩) (c2 : PySem.W.codeIn K cd2 "factorial" = true) (k2 : PySem.W.keepIn K (.ref f2) = true)
    (a3 : PySem.W.nsIn K mainGlobals "binomial" = some (some (.ref f3))) (l3 : K.lookup f3 = some ⟨oc3, od3, .func (PySem.W.fnOf "binomial" "binomial" (defArgs st_p_binomial) (defBody st_p_binomial) (defScope st_p_binomial) .none kV3 dc3 pm3 an3 cd3 ct3), sl3⟩) (c3 : PySem.W.codeIn K cd3 "binomial" = true) (k3 : PySem.W.keepIn K (.ref f3) = true)
    (a4 : PySem.W.nsIn K mainGlobals "is_whole" = some (some (.ref f4))) (l4 : K.lookup f4 = some ⟨oc4, od4, .func (PySem.W.fnOf "is_whole" "is_whole" (defArgs st_p_is_whole) (defBody st_p_is_whole) (defScope st_p_is_whole) .none kV4 dc4 pm4 an4 cd4 ct4), sl4⟩) (c4 : PySem.W.codeIn K cd4 "is_whole" = true) (k4 : PySem.W.keepIn K (.ref f4) = true)
    (a5 : PySem.W.nsIn K mainGlobals "lighter_lengths" = some (some (.ref f5))) (l5 : K.lookup f5 = some ⟨oc5, od5, .func (PySem.W.fnOf "lighter_lengths" "lighter_lengths" (defArgs st_p_lighter_lengths) (defBody st_p_lighter_lengths) (defScope st_p_lighter_lengths) .none kV5 dc5 pm5 an5 cd5 ct5), sl5⟩) (c5 : PySem.W.codeIn K cd5 "lighter_lengths" = true) (k5 : PySem.W.keepIn K (.ref f5) = true)
    (a6 : PySem.W.nsIn K mainGlobals "lengths_at" = some (some (.ref f6))) (l6 : K.lookup f6 = some ⟨oc6, od6, .func (PySem.W.fnOf "lengths_at" "lengths_at" (defArgs st_p_lengths_at) (defBody st_p_lengths_at) (defScope st_p_lengths_at) .none kV6 dc6 pm6 an6 cd6 ct6), sl6⟩) (c6 : PySem.W.codeIn K cd6 "lengths_at" = true) (k6 : PySem.W.keepIn K (.ref f6) = true)
    (a7 : PySem.W.nsIn K mainGlobals "without_block" = some (some (.ref f7))) (l7 : K.lookup f7 = some ⟨oc7, od7, .func (PySem.W.fnOf "without_block" "without_block" (defArgs st_p_without_block) (defBody st_p_without_block) (defScope st_p_without_block) .none kV7 dc7 pm7 an7 cd7 ct7), sl7⟩) (c7 : PySem.W.codeIn K cd7 "without_block" = true) (k7 : PySem.W.keepIn K (.ref f7) = true)
    (a8 : PySem.W.nsIn K mainGlobals "exchange_at" = some (some (.ref f8))) (l8 : K.lookup f8 = some ⟨oc8, od8, .func (PySem.W.fnOf "exchange_at" "exchange_at" (defArgs st_p_exchange_at) (defBody st_p_exchange_at) (defScope st_p_exchange_at) .none (.ref KD8) dc8 pm8 an8 cd8 ct8), sl8⟩) (c8 : PySem.W.codeIn K cd8 "exchange_at" = true) (k8 : PySem.W.keepIn K (.ref f8) = true)
    (a9 : PySem.W.nsIn K mainGlobals "_law_sizes" = some (some (.ref f9))) (l9 : K.lookup f9 = some ⟨oc9, od9, .func (PySem.W.fnOf "_law_sizes" "_law_sizes" (defArgs st_sizes) (defBody st_sizes) (defScope st_sizes) .none kV9 dc9 pm9 an9 cd9 ct9), sl9⟩) (c9 : PySem.W.codeIn K cd9 "_law_sizes" = true) (k9 : PySem.W.keepIn K (.ref f9) = true)
    (a10 : PySem.W.nsIn K mainGlobals "_law_orders" = some (some (.ref f10))) (l10 : K.lookup f10 = some ⟨oc10, od10, .func (PySem.W.fnOf "_law_orders" "_law_orders" (defArgs st_orders) (defBody st_orders) (defScope st_orders) .none kV10 dc10 pm10 an10 cd10 ct10), sl10⟩) (c10 : PySem.W.codeIn K cd10 "_law_orders" = true) (k10 : PySem.W.keepIn K (.ref f10) = true)
    (a11 : PySem.W.nsIn K mainGlobals "_law_is_standard" = some (some (.ref f11))) (l11 : K.lookup f11 = some ⟨oc11, od11, .func (PySem.W.fnOf "_law_is_standard" "_law_is_standard" (defArgs st_is_standard) (defBody st_is_standard) (defScope st_is_standard) .none kV11 dc11 pm11 an11 cd11 ct11), sl11⟩) (c11 : PySem.W.codeIn K cd11 "_law_is_standard" = true) (k11 : PySem.W.keepIn K (.ref f11) = true)
    (a12 : PySem.W.nsIn K mainGlobals "_law_all" = some (some (.ref f12))) (l12 : K.lookup f12 = some ⟨oc12, od12, .func (PySem.W.fnOf "_law_all" "_law_all" (defArgs st_all) (defBody st_all) (defScope st_all) .none kV12 dc12 pm12 an12 cd12 ct12), sl12⟩) (c12 : PySem.W.codeIn K cd12 "_law_all" = true) (k12 : PySem.W.keepIn K (.ref f12) = true)
    (a13 : PySem.W.nsIn K mainGlobals "kept_blocks" = some (some (.ref f13))) (l13 : K.lookup f13 = some ⟨oc13, od13, .func (PySem.W.fnOf "kept_blocks" "kept_blocks" (defArgs st_p_kept_blocks) (defBody st_p_kept_blocks) (defScope st_p_kept_blocks) .none kV13 dc13 pm13 an13 cd13 ct13), sl13⟩) (c13 : PySem.W.codeIn K cd13 "kept_blocks" = true) (k13 : PySem.W.keepIn K (.ref f13) = true)
    (a14 : PySem.W.nsIn K mainGlobals "lengths_index" = some (some (.ref f14))) (l14 : K.lookup f14 = some ⟨oc14, od14, .func (PySem.W.fnOf "lengths_index" "lengths_index" (defArgs st_p_lengths_index) (defBody st_p_lengths_index) (defScope st_p_lengths_index) .none kV14 dc14 pm14 an14 cd14 ct14), sl14⟩) (c14 : PySem.W.codeIn K cd14 "lengths_index" = true) (k14 : PySem.W.keepIn K (.ref f14) = true)
    (a15 : PySem.W.nsIn K mainGlobals "exchange_index" = some (some (.ref f15))) (l15 : K.lookup f15 = some ⟨oc15, od15, .func (PySem.W.fnOf "exchange_index" "exchange_index" (defArgs st_p_exchange_index) (defBody st_p_exchange_index) (defScope st_p_exchange_index) .none (.ref KD15) dc15 pm15 an15 cd15 ct15), sl15⟩) (c15 : PySem.W.codeIn K cd15 "exchange_index" = true) (k15 : PySem.W.keepIn K (.ref f15) = true)
    (a16 : PySem.W.nsIn K mainGlobals "walk_lengths" = some (some (.ref f16))) (l16 : K.lookup f16 = some ⟨oc16, od16, .func (PySem.W.fnOf "walk_lengths" "walk_lengths" (defArgs st_p_walk_lengths) (defBody st_p_walk_lengths) (defScope st_p_walk_lengths) .none kV16 dc16 pm16 an16 cd16 ct16), sl16⟩) (c16 : PySem.W.codeIn K cd16 "walk_lengths" = true) (k16 : PySem.W.keepIn K (.ref f16) = true)
    (a17 : PySem.W.nsIn K mainGlobals "walk_orders" = some (some (.ref f17))) (l17 : K.lookup f17 = some ⟨oc17, od17, .func (PySem.W.fnOf "walk_orders" "walk_orders" (defArgs st_p_walk_orders) (defBody st_p_walk_orders) (defScope st_p_walk_orders) .none kV17 dc17 pm17 an17 cd17 ct17), sl17⟩) (c17 : PySem.W.codeIn K cd17 "walk_orders" = true) (k17 : PySem.W.keepIn K (.ref f17) = true)
    (a18 : PySem.W.nsIn K mainGlobals "walk_exchanges" = some (some (.ref f18))) (l18 : K.lookup f18 = some ⟨oc18, od18, .func (PySem.W.fnOf "walk_exchanges" "walk_exchanges" (defArgs st_p_walk_exchanges) (defBody st_p_walk_exchanges) (defScope st_p_walk_exchanges) .none (.ref KD18) dc18 pm18 an18 cd18 ct18), sl18⟩) (c18 : PySem.W.codeIn K cd18 "walk_exchanges" = true) (k18 : PySem.W.keepIn K (.ref f18) = true)
    (a19 : PySem.W.nsIn K mainGlobals "_law_small_right" = some (some (.ref f19))) (l19 : K.lookup f19 = some ⟨oc19, od19, .func (PySem.W.fnOf "_law_small_right" "_law_small_right" (defArgs st_small_right) (defBody st_small_right) (defScope st_small_right) .none kV19 dc19 pm19 an19 cd19 ct19), sl19⟩) (c19 : PySem.W.codeIn K cd19 "_law_small_right" = true) (k19 : PySem.W.keepIn K (.ref f19) = true)
    (a20 : PySem.W.nsIn K mainGlobals "_law_choose" = some (some (.ref f20))) (l20 : K.lookup f20 = some ⟨oc20, od20, .func (PySem.W.fnOf "_law_choose" "_law_choose" (defArgs st_choose) (defBody st_choose) (defScope st_choose) .none kV20 dc20 pm20 an20 cd20 ct20), sl20⟩) (c20 : PySem.W.codeIn K cd20 "_law_choose" = true) (k20 : PySem.W.keepIn K (.ref f20) = true)
    (a21 : PySem.W.nsIn K mainGlobals "_law_count" = some (some (.ref f21))) (l21 : K.lookup f21 = some ⟨oc21, od21, .func (PySem.W.fnOf "_law_count" "_law_count" (defArgs st_count) (defBody st_count) (defScope st_count) .none kV21 dc21 pm21 an21 cd21 ct21), sl21⟩) (c21 : PySem.W.codeIn K cd21 "_law_count" = true) (k21 : PySem.W.keepIn K (.ref f21) = true)
    (a22 : PySem.W.nsIn K mainGlobals "_law_large_right" = some (some (.ref f22))) (l22 : K.lookup f22 = some ⟨oc22, od22, .func (PySem.W.fnOf "_law_large_right" "_law_large_right" (defArgs st_large_right) (defBody st_large_right) (defScope st_large_right) .none kV22 dc22 pm22 an22 cd22 ct22), sl22⟩) (c22 : PySem.W.codeIn K cd22 "_law_large_right" = true) (k22 : PySem.W.keepIn K (.ref f22) = true)
    (a23 : PySem.W.nsIn K mainGlobals "law" = some (some (.ref f23))) (l23 : K.lookup f23 = some ⟨oc23, od23, .func (PySem.W.fnOf "law" "law" (defArgs st_law) (defBody st_law) (defScope st_law) .none kV23 dc23 pm23 an23 cd23 ct23), sl23⟩) (c23 : PySem.W.codeIn K cd23 "law" = true) (k23 : PySem.W.keepIn K (.ref f23) = true)
    {C0 C1 C2 : Addr}
{xnm1 xqn1 : Str} {xN1 fI1 : Addr} {xbs1 xbm1 xsb1 : List Value} {xsn1 : List Str} {xab1 : Bool} {xco1 : Option Bool} {xdd1 xod1 xan1 : Option Addr} {xk01 xk11 xk21 xk31 xk51 : Option Value} {xsl1 : Array (Option Value)} {xoc1 xkV1 xdc1 xpm1 xcd1 xct1 : Value}
{D0 : Addr}
{mf0 : Addr} {mod0 man0 : Option Addr} {msl0 : Array (Option Value)} {moc0 mkV0 mdc0 mpm0 mcd0 mct0 : Value}
{mf1 : Addr} {mod1 man1 : Option Addr} {msl1 : Array (Option Value)} {moc1 mkV1 mdc1 mpm1 mcd1 mct1 : Value}
{mf2 : Addr} {mod2 man2 : Option Addr} {msl2 : Array (Option Value)} {moc2 mkV2 mdc2 mpm2 mcd2 mct2 : Value}
{mf3 : Addr} {mod3 man3 : Option Addr} {msl3 : Array (Option Value)} {moc3 mkV3 mdc3 mpm3 mcd3 mct3 : Value}
{mf4 : Addr} {mod4 man4 : Option Addr} {msl4 : Array (Option Value)} {moc4 mkV4 mdc4 mpm4 mcd4 mct4 : Value}
{mf5 : Addr} {mod5 man5 : Option Addr} {msl5 : Array (Option Value)} {moc5 mkV5 mdc5 mpm5 mcd5 mct5 : Value} (ya0 : PySem.W.nsIn K mainGlobals "TurnError" = some (some (.ref C0)))
(ya1 : PySem.W.nsIn K mainGlobals "NoIndex" = some (some (.ref C1)))
(ya2 : PySem.W.nsIn K mainGlobals "NotStandard" = some (some (.ref C2)))
(yb0 : PySem.W.findIn K (.ref C0) "__getattribute__" = some (some (.builtin "BaseException.__getattribute__")))
(yc0 : PySem.W.findIn K (.ref C0) "__getattr__" = some none)
(yd0 : PySem.W.subIn K (.ref C0) (.type "BaseException") = some true)
(ye0 : PySem.W.hasDictIn K C0 = true)
(yf0 : PySem.W.findIn K (.ref C0) "__class__" = some (some (.builtin "object.__class__")))
(yi0 : PySem.W.mroIn K C0 (.type "object") = some true)
(yj0 : PySem.W.typeIn K (.ref C0) = some (.type "type"))
(yk0 : PySem.W.subIn K (.ref C0) (.type "ValueError") = some true)
(yz0 : PySem.W.subIn K (.ref C0) (.type "StopIteration") = some false)
(ys0_0 : PySem.W.subIn K (.ref C0) (.ref C0) = some true)
(ys0_1 : PySem.W.subIn K (.ref C0) (.ref C1) = some false)
(ys0_2 : PySem.W.subIn K (.ref C0) (.ref C2) = some false)
(yb1 : PySem.W.findIn K (.ref C1) "__getattribute__" = some (some (.builtin "BaseException.__getattribute__")))
(yc1 : PySem.W.findIn K (.ref C1) "__getattr__" = some none)
(yd1 : PySem.W.subIn K (.ref C1) (.type "BaseException") = some true)
(ye1 : PySem.W.hasDictIn K C1 = true)
(yf1 : PySem.W.findIn K (.ref C1) "__class__" = some (some (.builtin "object.__class__")))
(yi1 : PySem.W.mroIn K C1 (.type "object") = some true)
(yj1 : PySem.W.typeIn K (.ref C1) = some (.type "type"))
(yk1 : PySem.W.subIn K (.ref C1) (.type "ValueError") = some true)
(yz1 : PySem.W.subIn K (.ref C1) (.type "StopIteration") = some false)
(ys1_0 : PySem.W.subIn K (.ref C1) (.ref C0) = some true)
(ys1_1 : PySem.W.subIn K (.ref C1) (.ref C1) = some true)
(ys1_2 : PySem.W.subIn K (.ref C1) (.ref C2) = some false)
(yb2 : PySem.W.findIn K (.ref C2) "__getattribute__" = some (some (.builtin "BaseException.__getattribute__")))
(yc2 : PySem.W.findIn K (.ref C2) "__getattr__" = some none)
(yd2 : PySem.W.subIn K (.ref C2) (.type "BaseException") = some true)
(ye2 : PySem.W.hasDictIn K C2 = true)
(yf2 : PySem.W.findIn K (.ref C2) "__class__" = some (some (.builtin "object.__class__")))
(yi2 : PySem.W.mroIn K C2 (.type "object") = some true)
(yj2 : PySem.W.typeIn K (.ref C2) = some (.type "type"))
(yk2 : PySem.W.subIn K (.ref C2) (.type "ValueError") = some true)
(yz2 : PySem.W.subIn K (.ref C2) (.type "StopIteration") = some false)
(ys2_0 : PySem.W.subIn K (.ref C2) (.ref C0) = some true)
(ys2_1 : PySem.W.subIn K (.ref C2) (.ref C1) = some false)
(ys2_2 : PySem.W.subIn K (.ref C2) (.ref C2) = some true)
(yg : PySem.W.specialIn K (.builtin "object.__class__") "__get__" = some (some (.builtin "getset_descriptor.__get__")))
(yh : PySem.W.takesIn K (.builtin "object.__class__") = some true)
(yl1 : K.lookup C1 = some (excClassObj xnm1 xqn1 C1 xN1 xbs1 xbm1 true xsn1 xsb1 xab1 xco1 xdd1 xk01 xk11 xk21 xk31 xk51 "ValueError.__new__"))
(yr1 : PySem.HandSPX.refsVE xbm1 = true)
(yt1 : PySem.W.findIn K (.ref C1) "__setattr__" = some (some (.builtin "object.__setattr__")))
(yo1 : PySem.W.keepIn K (.ref C1) = true)
(ym1 : PySem.W.findIn K (.ref C1) "index" = some none)
(yu1 : PySem.W.findIn K (.ref C1) "__init__" = some (some (.ref fI1)))
(yv1 : PySem.W.typeIn K (.ref fI1) = some (.type "function"))
(yw1 : K.lookup fI1 = some ⟨xoc1, xod1, .func (PySem.W.fnOf "__init__" "NoIndex.__init__" (defArgs st_ini1) (defBody st_ini1) (defScope st_ini1) .none xkV1 xdc1 xpm1 xan1 xcd1 xct1), xsl1⟩)
(yx1 : PySem.W.codeIn K xcd1 "NoIndex.__init__" = true)
(yy1 : PySem.W.keepIn K (.ref fI1) = true)
(yq2 : PySem.W.excIn K C2 [.type "ValueError", .type "Exception", .type "BaseException", .type "object"] "ValueError.__new__" = true)
(yo2 : PySem.W.keepIn K (.ref C2) = true)
(za0 : PySem.W.nsIn K mainGlobals "Orders" = some (some (.ref D0)))
(zb0 : PySem.W.plainGet K D0 Str.empty = true)
(zc0 : PySem.W.hasDictIn K D0 = true)
(zd0 : PySem.W.plainOver K D0 = true)
(ze0 : PySem.W.findIn K (.ref D0) "__setattr__" = some (some (.builtin "object.__setattr__")))
(zm0 : PySem.W.makesIn K D0 = true)
(zk0 : PySem.W.keepIn K (.ref D0) = true)
(zn0_0 : PySem.W.findIn K (.ref D0) "blocks" = some none)
(zn0_1 : PySem.W.findIn K (.ref D0) "standard" = some none)
(wa0 : PySem.W.findIn K (.ref D0) "__init__" = some (some (.ref mf0)))
(wl0 : K.lookup mf0 = some ⟨moc0, mod0, .func (PySem.W.fnOf "__init__" "Orders.__init__" (defArgs st_Orders___init__) (defBody st_Orders___init__) (defScope st_Orders___init__) .none mkV0 mdc0 mpm0 man0 mcd0 mct0), msl0⟩)
(wc0 : PySem.W.codeIn K mcd0 "Orders.__init__" = true)
(wk0 : PySem.W.keepIn K (.ref mf0) = true)
(wf0 : PySem.W.isFn K (.ref mf0) = true)
(wa1 : PySem.W.findIn K (.ref D0) "ways" = some (some (.ref mf1)))
(wl1 : K.lookup mf1 = some ⟨moc1, mod1, .func (PySem.W.fnOf "ways" "Orders.ways" (defArgs st_Orders_ways) (defBody st_Orders_ways) (defScope st_Orders_ways) .none mkV1 mdc1 mpm1 man1 mcd1 mct1), msl1⟩)
(wc1 : PySem.W.codeIn K mcd1 "Orders.ways" = true)
(wk1 : PySem.W.keepIn K (.ref mf1) = true)
(wf1 : PySem.W.isFn K (.ref mf1) = true)
(wa2 : PySem.W.findIn K (.ref D0) "count" = some (some (.ref mf2)))
(wl2 : K.lookup mf2 = some ⟨moc2, mod2, .func (PySem.W.fnOf "count" "Orders.count" (defArgs st_Orders_count) (defBody st_Orders_count) (defScope st_Orders_count) .none mkV2 mdc2 mpm2 man2 mcd2 mct2), msl2⟩)
(wc2 : PySem.W.codeIn K mcd2 "Orders.count" = true)
(wk2 : PySem.W.keepIn K (.ref mf2) = true)
(wf2 : PySem.W.isFn K (.ref mf2) = true)
(wa3 : PySem.W.findIn K (.ref D0) "choices" = some (some (.ref mf3)))
(wl3 : K.lookup mf3 = some ⟨moc3, mod3, .func (PySem.W.fnOf "choices" "Orders.choices" (defArgs st_Orders_choices) (defBody st_Orders_choices) (defScope st_Orders_choices) .none mkV3 mdc3 mpm3 man3 mcd3 mct3), msl3⟩)
(wc3 : PySem.W.codeIn K mcd3 "Orders.choices" = true)
(wk3 : PySem.W.keepIn K (.ref mf3) = true)
(wf3 : PySem.W.isFn K (.ref mf3) = true)
(wa4 : PySem.W.findIn K (.ref D0) "order_at" = some (some (.ref mf4)))
(wl4 : K.lookup mf4 = some ⟨moc4, mod4, .func (PySem.W.fnOf "order_at" "Orders.order_at" (defArgs st_Orders_order_at) (defBody st_Orders_order_at) (defScope st_Orders_order_at) .none mkV4 mdc4 mpm4 man4 mcd4 mct4), msl4⟩)
(wc4 : PySem.W.codeIn K mcd4 "Orders.order_at" = true)
(wk4 : PySem.W.keepIn K (.ref mf4) = true)
(wf4 : PySem.W.isFn K (.ref mf4) = true)
(wa5 : PySem.W.findIn K (.ref D0) "index_of" = some (some (.ref mf5)))
(wl5 : K.lookup mf5 = some ⟨moc5, mod5, .func (PySem.W.fnOf "index_of" "Orders.index_of" (defArgs st_Orders_index_of) (defBody st_Orders_index_of) (defScope st_Orders_index_of) .none mkV5 mdc5 mpm5 man5 mcd5 mct5), msl5⟩)
(wc5 : PySem.W.codeIn K mcd5 "Orders.index_of" = true)
(wk5 : PySem.W.keepIn K (.ref mf5) = true)
(wf5 : PySem.W.isFn K (.ref mf5) = true)
(kd8 : PySem.W.nsIn K KD8 "standard" = some (some (.bool false)))
(kd15 : PySem.W.nsIn K KD15 "standard" = some (some (.bool false)))
(kd18 : PySem.W.nsIn K KD18 "standard" = some (some (.bool false)))
    (n0 : PySem.W.nsIn K mainGlobals "abs" = some none) (n1 : PySem.W.nsIn K mainGlobals "bool" = some none) (n2 : PySem.W.nsIn K mainGlobals "int" = some none) (n3 : PySem.W.nsIn K mainGlobals "isinstance" = some none) (n4 : PySem.W.nsIn K mainGlobals "len" = some none) (n5 : PySem.W.nsIn K mainGlobals "list" = some none) (n6 : PySem.W.nsIn K mainGlobals "min" = some none) (n7 : PySem.W.nsIn K mainGlobals "range" = some none) (n8 : PySem.W.nsIn K mainGlobals "repr" = some none) (n9 : PySem.W.nsIn K mainGlobals "sorted" = some none) (n10 : PySem.W.nsIn K mainGlobals "sum" = some none) (n11 : PySem.W.nsIn K mainGlobals "tuple" = some none) (n12 : PySem.W.nsIn K mainGlobals "zip" = some none)   : K.lookup sysModules = none ∧
    ∃ fd : FuncData, (∀ (s : Shared) (u : Value), BindsTo s fd ⟨[u], []⟩ [("_law_script", u)]) ∧ ∀ base : Heap, K.In base → base.Ns mainGlobals mg → FnG P w K mg base CX0 33 fa fd ["_law_script"] (spLaw K) := by
  have e := hfa.symm.trans (PySem.W.mg_of X G a23)
  cases e
  have hB : Blt mg := fun x hx => by
    simp only [bnames, List.mem_cons, List.not_mem_nil, or_false] at hx
    rcases hx with rfl | rfl | rfl | rfl | rfl | rfl | rfl | rfl | rfl | rfl | rfl | rfl | rfl
    · exact PySem.W.mg_none_of X G n0
    · exact PySem.W.mg_none_of X G n1
    · exact PySem.W.mg_none_of X G n2
    · exact PySem.W.mg_none_of X G n3
    · exact PySem.W.mg_none_of X G n4
    · exact PySem.W.mg_none_of X G n5
    · exact PySem.W.mg_none_of X G n6
    · exact PySem.W.mg_none_of X G n7
    · exact PySem.W.mg_none_of X G n8
    · exact PySem.W.mg_none_of X G n9
    · exact PySem.W.mg_none_of X G n10
    · exact PySem.W.mg_none_of X G n11
    · exact PySem.W.mg_none_of X G n12
  have hC : Cst mg := fun x hx => by
    unfold cnames at hx; cases hx

  have hcl : ∀ c, XCl K ((xcT C0 C1 C2) c) := fun c => match c with | 0 => ⟨yb0, yc0, yd0, ye0, yf0, yg, yh, yi0, yj0, yk0⟩ | 1 => ⟨yb1, yc1, yd1, ye1, yf1, yg, yh, yi1, yj1, yk1⟩ | _ + 2 => ⟨yb2, yc2, yd2, ye2, yf2, yg, yh, yi2, yj2, yk2⟩
  have hNS : ∀ c, PySem.W.subIn K (.ref ((xcT C0 C1 C2) c)) (.type "StopIteration") = some false := fun c => match c with | 0 => yz0 | 1 => yz1 | _ + 2 => yz2
  have hno : ∀ f ∈ xattrs, ∀ c, PySem.W.findIn K (.ref ((xcT C0 C1 C2) c)) f = some none := fun f hf c => by
    cases hf
  have hsu : ∀ c k, k < xn → PySem.W.subIn K (.ref ((xcT C0 C1 C2) c)) (.ref ((xcT C0 C1 C2) k)) = some (tT c k) := fun c k hk => match c, k, hk with | 0, 0, _ => ys0_0 | 0, 1, _ => ys0_1 | 0, 2, _ => ys0_2 | 1, 0, _ => ys1_0 | 1, 1, _ => ys1_1 | 1, 2, _ => ys1_2 | _ + 2, 0, _ => ys2_0 | _ + 2, 1, _ => ys2_1 | _ + 2, 2, _ => ys2_2 | _, _ + 3, hk => absurd hk (by show ¬ (_ + 3 < 3); omega)
  have hgl : ∀ p ∈ xnames, mg p.1 = some (.ref ((xcT C0 C1 C2) p.2)) ∧ p.2 < xn := fun p hp => by
    simp only [xnames, List.mem_cons, List.not_mem_nil, or_false] at hp; rcases hp with rfl | rfl | rfl
    · exact ⟨PySem.W.mg_of X G ya0, by decide⟩
    · exact ⟨PySem.W.mg_of X G ya1, by decide⟩
    · exact ⟨PySem.W.mg_of X G ya2, by decide⟩
  have hX : XT K mg (xcT C0 C1 C2) tT xn xnames xattrs := ⟨hgl, hcl, hno, hsu, by decide⟩
  have FI1 := fun_mk (st := st_ini1) yw1 yx1 yy1
  have bI1 := FI1.binds (ps := ["self", "index"]) fun _ _ _ _ _ _ us hl => match us, hl with | [_, _], _ => rfl
  have T1 : OexC K C1 := ⟨⟨xnm1, xqn1, xN1, xbs1, xbm1, xsn1, xsb1, xab1, xco1, xdd1, xk01, xk11, xk21, xk31, xk51, yl1, yr1⟩, yt1, yd1, yj1, yo1⟩
  have V_0 : ∀ {J : Type} (S : Js J), Lk K (clT D0) (xcT C0 C1 C2) xfT S → ClsT S 0 at_Orders := fun S h => by
    obtain ⟨e1, e2, e3, e4⟩ := h
    have c1 : S.cl 0 = D0 := by rw [e2]; rfl
    refine ⟨by rw [e1, c1]; exact ⟨zb0, zc0, zd0, ze0⟩, fun f hf => ?_⟩
    rw [e1, c1]
    simp only [at_Orders, List.mem_cons, List.not_mem_nil, or_false] at hf; rcases hf with rfl | rfl
    · exact zn0_0
    · exact zn0_1
  have T_0 : ∀ R, ClsT (jsND K (clT D0) (xcT C0 C1 C2) xfT R) 0 at_Orders := fun R => V_0 (jsND K (clT D0) (xcT C0 C1 C2) xfT R) ⟨rfl, rfl, rfl, rfl⟩
  have MF0 := fun_mk (st := st_Orders___init__) wl0 wc0 wk0
  have Q_Orders___init__ : MI K (clT D0) 0 "__init__" "Orders.__init__" st_Orders___init__ ["self", "blocks", "standard"] := ⟨_, _, MF0, ⟨zm0, wa0, wf0, zk0⟩, MF0.binds (ps := ["self", "blocks", "standard"]) fun _ _ _ _ _ _ us hl => match us, hl with | [_, _, _], _ => rfl⟩
  have MF1 := fun_mk (st := st_Orders_ways) wl1 wc1 wk1
  have Q_Orders_ways : MF K (clT D0) 0 "ways" "Orders.ways" st_Orders_ways ["self", "left", "last"] := ⟨_, _, MF1, ⟨wa1, wf1, wk1⟩, MF1.binds (ps := ["self", "left", "last"]) fun _ _ _ _ _ _ us hl => match us, hl with | [_, _, _], _ => rfl⟩
  have MF2 := fun_mk (st := st_Orders_count) wl2 wc2 wk2
  have Q_Orders_count : MF K (clT D0) 0 "count" "Orders.count" st_Orders_count ["self"] := ⟨_, _, MF2, ⟨wa2, wf2, wk2⟩, MF2.binds (ps := ["self"]) fun _ _ _ _ _ _ us hl => match us, hl with | [_], _ => rfl⟩
  have MF3 := fun_mk (st := st_Orders_choices) wl3 wc3 wk3
  have Q_Orders_choices : MF K (clT D0) 0 "choices" "Orders.choices" st_Orders_choices ["self", "left", "last"] := ⟨_, _, MF3, ⟨wa3, wf3, wk3⟩, MF3.binds (ps := ["self", "left", "last"]) fun _ _ _ _ _ _ us hl => match us, hl with | [_, _, _], _ => rfl⟩
  have MF4 := fun_mk (st := st_Orders_order_at) wl4 wc4 wk4
  have Q_Orders_order_at : MF K (clT D0) 0 "order_at" "Orders.order_at" st_Orders_order_at ["self", "index"] := ⟨_, _, MF4, ⟨wa4, wf4, wk4⟩, MF4.binds (ps := ["self", "index"]) fun _ _ _ _ _ _ us hl => match us, hl with | [_, _], _ => rfl⟩
  have MF5 := fun_mk (st := st_Orders_index_of) wl5 wc5 wk5
  have Q_Orders_index_of : MF K (clT D0) 0 "index_of" "Orders.index_of" st_Orders_index_of ["self", "order"] := ⟨_, _, MF5, ⟨wa5, wf5, wk5⟩, MF5.binds (ps := ["self", "order"]) fun _ _ _ _ _ _ us hl => match us, hl with | [_, _], _ => rfl⟩
  have F0 := fun_mk (st := st_opened) l0 c0 k0
  have b0 := F0.binds (ps := ["_law_script"]) fun _ _ _ _ _ _ us hl => match us, hl with | [_], _ => rfl
  have m0 := PySem.W.mg_of X G a0
  have F1 := fun_mk (st := st_roll) l1 c1 k1
  have b1 := F1.binds (ps := ["_law_deal", "_law_many"]) fun _ _ _ _ _ _ us hl => match us, hl with | [_, _], _ => rfl
  have m1 := PySem.W.mg_of X G a1
  have F2 := fun_mk (st := st_p_factorial) l2 c2 k2
  have b2 := F2.binds (ps := ["many"]) fun _ _ _ _ _ _ us hl => match us, hl with | [_], _ => rfl
  have m2 := PySem.W.mg_of X G a2
  have F3 := fun_mk (st := st_p_binomial) l3 c3 k3
  have b3 := F3.binds (ps := ["total", "some"]) fun _ _ _ _ _ _ us hl => match us, hl with | [_, _], _ => rfl
  have m3 := PySem.W.mg_of X G a3
  have F4 := fun_mk (st := st_p_is_whole) l4 c4 k4
  have b4 := F4.binds (ps := ["value", "low", "high"]) fun _ _ _ _ _ _ us hl => match us, hl with | [_, _, _], _ => rfl
  have m4 := PySem.W.mg_of X G a4
  have F5 := fun_mk (st := st_p_lighter_lengths) l5 c5 k5
  have b5 := F5.binds (ps := ["n", "blocks", "first"]) fun _ _ _ _ _ _ us hl => match us, hl with | [_, _, _], _ => rfl
  have m5 := PySem.W.mg_of X G a5
  have F6 := fun_mk (st := st_p_lengths_at) l6 c6 k6
  have b6 := F6.binds (ps := ["n", "blocks", "index"]) fun _ _ _ _ _ _ us hl => match us, hl with | [_, _, _], _ => rfl
  have m6 := PySem.W.mg_of X G a6
  have F7 := fun_mk (st := st_p_without_block) l7 c7 k7
  have b7 := F7.binds (ps := ["left", "block"]) fun _ _ _ _ _ _ us hl => match us, hl with | [_, _], _ => rfl
  have m7 := PySem.W.mg_of X G a7
  have F8 := fun_mk (st := st_p_exchange_at) l8 c8 k8
  have b8 := binds_kw (dv := dvV (.bl false)) (hr := rfl) (n := 3) (kw := "standard") (ps := ["n", "blocks", "index", "standard"]) l8 c8 k8 kd8 rfl (fun _ _ _ _ _ _ us ks h1 h2 => match us, ks, h1, h2 with | [_, _, _], [_], _, _ => ⟨_, _, _, _, _, _, rfl, rfl, rfl⟩)
  have e8 : ∀ (s : Shared) (us ws : List Value), K.In s.heap → us.length = 3 → ws.length = 1 → BindsTo s (PySem.W.fnOf "exchange_at" "exchange_at" (defArgs st_p_exchange_at) (defBody st_p_exchange_at) (defScope st_p_exchange_at) .none (.ref KD8) dc8 pm8 an8 cd8 ct8) ⟨us, [("standard" : Str)].zip ws⟩ ((["n", "blocks", "index", "standard"] : List Str).zip (us ++ ws)) := fun s us ws _ h1 h2 => match us, ws, h1, h2 with | [_, _, _], [_], _, _ => .of_eq rfl
  have m8 := PySem.W.mg_of X G a8
  have F9 := fun_mk (st := st_sizes) l9 c9 k9
  have b9 := F9.binds (ps := ["_law_n", "_law_blocks"]) fun _ _ _ _ _ _ us hl => match us, hl with | [_, _], _ => rfl
  have m9 := PySem.W.mg_of X G a9
  have F10 := fun_mk (st := st_orders) l10 c10 k10
  have b10 := F10.binds (ps := ["_law_many"]) fun _ _ _ _ _ _ us hl => match us, hl with | [_], _ => rfl
  have m10 := PySem.W.mg_of X G a10
  have F11 := fun_mk (st := st_is_standard) l11 c11 k11
  have b11 := F11.binds (ps := ["_law_order"]) fun _ _ _ _ _ _ us hl => match us, hl with | [_], _ => rfl
  have m11 := PySem.W.mg_of X G a11
  have F12 := fun_mk (st := st_all) l12 c12 k12
  have b12 := F12.binds (ps := ["_law_n", "_law_blocks", "_law_only"]) fun _ _ _ _ _ _ us hl => match us, hl with | [_, _, _], _ => rfl
  have m12 := PySem.W.mg_of X G a12
  have F13 := fun_mk (st := st_p_kept_blocks) l13 c13 k13
  have b13 := F13.binds (ps := ["exchange"]) fun _ _ _ _ _ _ us hl => match us, hl with | [_], _ => rfl
  have m13 := PySem.W.mg_of X G a13
  have F14 := fun_mk (st := st_p_lengths_index) l14 c14 k14
  have b14 := F14.binds (ps := ["lengths"]) fun _ _ _ _ _ _ us hl => match us, hl with | [_], _ => rfl
  have m14 := PySem.W.mg_of X G a14
  have F15 := fun_mk (st := st_p_exchange_index) l15 c15 k15
  have b15 := binds_kw (dv := dvV (.bl false)) (hr := rfl) (n := 1) (kw := "standard") (ps := ["exchange", "standard"]) l15 c15 k15 kd15 rfl (fun _ _ _ _ _ _ us ks h1 h2 => match us, ks, h1, h2 with | [_], [_], _, _ => ⟨_, _, _, _, _, _, rfl, rfl, rfl⟩)
  have e15 : ∀ (s : Shared) (us ws : List Value), K.In s.heap → us.length = 1 → ws.length = 1 → BindsTo s (PySem.W.fnOf "exchange_index" "exchange_index" (defArgs st_p_exchange_index) (defBody st_p_exchange_index) (defScope st_p_exchange_index) .none (.ref KD15) dc15 pm15 an15 cd15 ct15) ⟨us, [("standard" : Str)].zip ws⟩ ((["exchange", "standard"] : List Str).zip (us ++ ws)) := fun s us ws _ h1 h2 => match us, ws, h1, h2 with | [_], [_], _, _ => .of_eq rfl
  have m15 := PySem.W.mg_of X G a15
  have F16 := fun_mk (st := st_p_walk_lengths) l16 c16 k16
  have b16 := F16.binds (ps := ["n", "blocks"]) fun _ _ _ _ _ _ us hl => match us, hl with | [_, _], _ => rfl
  have m16 := PySem.W.mg_of X G a16
  have F17 := fun_mk (st := st_p_walk_orders) l17 c17 k17
  have b17 := F17.binds (ps := ["left", "last", "standard"]) fun _ _ _ _ _ _ us hl => match us, hl with | [_, _, _], _ => rfl
  have m17 := PySem.W.mg_of X G a17
  have F18 := fun_mk (st := st_p_walk_exchanges) l18 c18 k18
  have b18 := binds_kw (dv := dvV (.bl false)) (hr := rfl) (n := 2) (kw := "standard") (ps := ["n", "blocks", "standard"]) l18 c18 k18 kd18 rfl (fun _ _ _ _ _ _ us ks h1 h2 => match us, ks, h1, h2 with | [_, _], [_], _, _ => ⟨_, _, _, _, _, _, rfl, rfl, rfl⟩)
  have e18 : ∀ (s : Shared) (us ws : List Value), K.In s.heap → us.length = 2 → ws.length = 1 → BindsTo s (PySem.W.fnOf "walk_exchanges" "walk_exchanges" (defArgs st_p_walk_exchanges) (defBody st_p_walk_exchanges) (defScope st_p_walk_exchanges) .none (.ref KD18) dc18 pm18 an18 cd18 ct18) ⟨us, [("standard" : Str)].zip ws⟩ ((["n", "blocks", "standard"] : List Str).zip (us ++ ws)) := fun s us ws _ h1 h2 => match us, ws, h1, h2 with | [_, _], [_], _, _ => .of_eq rfl
  have m18 := PySem.W.mg_of X G a18
  have F19 := fun_mk (st := st_small_right) l19 c19 k19
  have b19 := F19.binds (ps := ["_law_n", "_law_blocks", "_law_only"]) fun _ _ _ _ _ _ us hl => match us, hl with | [_, _, _], _ => rfl
  have m19 := PySem.W.mg_of X G a19
  have F20 := fun_mk (st := st_choose) l20 c20 k20
  have b20 := F20.binds (ps := ["_law_total", "_law_some"]) fun _ _ _ _ _ _ us hl => match us, hl with | [_, _], _ => rfl
  have m20 := PySem.W.mg_of X G a20
  have F21 := fun_mk (st := st_count) l21 c21 k21
  have b21 := F21.binds (ps := ["_law_n", "_law_blocks", "_law_only"]) fun _ _ _ _ _ _ us hl => match us, hl with | [_, _, _], _ => rfl
  have m21 := PySem.W.mg_of X G a21
  have F22 := fun_mk (st := st_large_right) l22 c22 k22
  have b22 := F22.binds (ps := ["_law_deal", "_law_n", "_law_blocks", "_law_only"]) fun _ _ _ _ _ _ us hl => match us, hl with | [_, _, _, _], _ => rfl
  have m22 := PySem.W.mg_of X G a22
  have F23 := fun_mk (st := st_law) l23 c23 k23
  have b23 := F23.binds (ps := ["_law_script"]) fun _ _ _ _ _ _ us hl => match us, hl with | [_], _ => rfl
  have m23 := PySem.W.mg_of X G a23
  refine ⟨sm0, PySem.W.fnOf "law" "law" (defArgs st_law) (defBody st_law) (defScope st_law) .none kV23 dc23 pm23 an23 cd23 ct23, fun s v => .of_eq rfl, fun base _ _ => ?_⟩
  have Y_NoIndex : ∀ {J : Type} (S : Js J), Lk K (clT D0) (xcT C0 C1 C2) xfT S → XMk S P w mg base 1 "NoIndex" := fun S h => by
    obtain ⟨e1, e2, e3, e4⟩ := h
    have c1 : S.xc 1 = C1 := by rw [e3]; rfl
    have c2 : S.xf 1 = "index" := by rw [e4]; rfl
    refine ⟨?_, ?_, ?_, ?_⟩
    · rw [e1, c1, c2]; exact ⟨fI1, _, _, ok_ini1 FI1, yu1, yv1, bI1⟩
    · rw [e1, c1]; exact T1
    · rw [e1, c1, c2]; exact ym1
    · rw [c1]; exact PySem.W.mg_of X G ya1
  have X_NoIndex : ∀ R, XMk (jsND K (clT D0) (xcT C0 C1 C2) xfT R) P w mg base 1 "NoIndex" := fun R => Y_NoIndex (jsND K (clT D0) (xcT C0 C1 C2) xfT R) ⟨rfl, rfl, rfl, rfl⟩
  have Y_NotStandard : ∀ {J : Type} (S : Js J), Lk K (clT D0) (xcT C0 C1 C2) xfT S → XM0 S mg 2 "NotStandard" := fun S h => by
    obtain ⟨e1, e2, e3, e4⟩ := h
    have c1 : S.xc 2 = C2 := by rw [e3]; rfl
    refine ⟨?_, ?_, ?_, ?_, ?_⟩
    · rw [e1, c1]; exact yq2
    · rw [e1, c1]; exact yo2
    · rw [e1, c1]; exact yd2
    · rw [e1, c1]; exact yj2
    · rw [c1]; exact PySem.W.mg_of X G ya2
  have X_NotStandard : ∀ R, XM0 (jsND K (clT D0) (xcT C0 C1 C2) xfT R) mg 2 "NotStandard" := fun R => Y_NotStandard (jsND K (clT D0) (xcT C0 C1 C2) xfT R) ⟨rfl, rfl, rfl, rfl⟩
  have C_roll : ∀ R, Cal (jsND K (clT D0) (xcT C0 C1 C2) xfT R) P w mg base 1 "_law_roll" 2 drawF := fun R => ok_roll hB   F1 m1 b1
  have U_Orders : ∀ {J : Type} (S : Js J), Lk K (clT D0) (xcT C0 C1 C2) xfT S → Mkr S P w mg base 1 0 "Orders" 3 F_Orders___init__ := fun S h => mk_Orders (S := S) h hB hC (V_0 S h)  Q_Orders___init__ (PySem.W.mg_of X G za0)
  have C_Orders : ∀ R, Mkr (jsND K (clT D0) (xcT C0 C1 C2) xfT R) P w mg base 1 0 "Orders" 3 F_Orders___init__ := fun R => U_Orders (jsND K (clT D0) (xcT C0 C1 C2) xfT R) ⟨rfl, rfl, rfl, rfl⟩
  have C_p_factorial : ∀ R, Cal (jsND K (clT D0) (xcT C0 C1 C2) xfT R) P w mg base 1 "factorial" 1 F_p_factorial := fun R => ok_p_factorial hB hC  F2 m2 b2
  have C_p_binomial : ∀ R, Cal (jsND K (clT D0) (xcT C0 C1 C2) xfT R) P w mg base 1 "binomial" 2 F_p_binomial := fun R => ok_p_binomial hB hC  F3 m3 b3
  have C_Orders_ways : ∀ R, Mth (jsND K (clT D0) (xcT C0 C1 C2) xfT R) P w mg base 2 0 "ways" 3 F_Orders_ways := fun R => ok_Orders_ways hB hC (T_0 R) (C_p_binomial R) (C_p_factorial R) Q_Orders_ways
  have C_Orders_count : ∀ R, Mth (jsND K (clT D0) (xcT C0 C1 C2) xfT R) P w mg base 3 0 "count" 1 F_Orders_count := fun R => ok_Orders_count hB hC (T_0 R) (C_Orders_ways R) Q_Orders_count
  have C_p_is_whole : ∀ R, Cal (jsND K (clT D0) (xcT C0 C1 C2) xfT R) P w mg base 1 "is_whole" 3 F_p_is_whole := fun R => ok_p_is_whole hB hC  F4 m4 b4
  have C_p_lighter_lengths : ∀ R, Cal (jsND K (clT D0) (xcT C0 C1 C2) xfT R) P w mg base 2 "lighter_lengths" 3 F_p_lighter_lengths := fun R => ok_p_lighter_lengths hB hC (C_p_binomial R) F5 m5 b5
  have C_p_lengths_at : ∀ R, Cal (jsND K (clT D0) (xcT C0 C1 C2) xfT R) P w mg base 11 "lengths_at" 3 F_p_lengths_at := fun R => ok_p_lengths_at hB hC (C_p_lighter_lengths R) F6 m6 b6
  have C_Orders_choices : ∀ R, Mth (jsND K (clT D0) (xcT C0 C1 C2) xfT R) P w mg base 1 0 "choices" 3 F_Orders_choices := fun R => ok_Orders_choices hB hC (T_0 R) Q_Orders_choices
  have C_p_without_block : ∀ R, Cal (jsND K (clT D0) (xcT C0 C1 C2) xfT R) P w mg base 1 "without_block" 2 F_p_without_block := fun R => ok_p_without_block hB hC  F7 m7 b7
  have C_Orders_order_at : ∀ R, Mth (jsND K (clT D0) (xcT C0 C1 C2) xfT R) P w mg base 3 0 "order_at" 2 F_Orders_order_at := fun R => ok_Orders_order_at hB hC (T_0 R) (C_Orders_choices R) (C_Orders_ways R) (C_p_without_block R) Q_Orders_order_at
  have C_p_exchange_at : ∀ R, CalK (jsND K (clT D0) (xcT C0 C1 C2) xfT R) P w mg base 12 "exchange_at" 3 "standard" (.bl false) F_p_exchange_at := fun R => ok_p_exchange_at hB hC (T_0 R) (C_Orders R) (C_Orders_count R) (C_Orders_order_at R) (C_p_binomial R) (C_p_is_whole R) (C_p_lengths_at R) (X_NoIndex R) F8 m8 b8 e8
  have C_sizes : ∀ R, Cal (jsND K (clT D0) (xcT C0 C1 C2) xfT R) P w mg base 9 "_law_sizes" 2 F_sizes := fun R => ok_sizes hB hC  F9 m9 b9
  have C_orders : ∀ R, Cal (jsND K (clT D0) (xcT C0 C1 C2) xfT R) P w mg base 1 "_law_orders" 1 F_orders := fun R => ok_orders hB hC  F10 m10 b10
  have C_is_standard : ∀ R, Cal (jsND K (clT D0) (xcT C0 C1 C2) xfT R) P w mg base 1 "_law_is_standard" 1 F_is_standard := fun R => ok_is_standard hB hC  F11 m11 b11
  have C_all : ∀ R, Cal (jsND K (clT D0) (xcT C0 C1 C2) xfT R) P w mg base 10 "_law_all" 3 F_all := fun R => ok_all hB hC (C_is_standard R) (C_orders R) (C_sizes R) F12 m12 b12
  have C_Orders_index_of : ∀ R, Mth (jsND K (clT D0) (xcT C0 C1 C2) xfT R) P w mg base 3 0 "index_of" 2 F_Orders_index_of := fun R => ok_Orders_index_of hB hC (T_0 R) (C_Orders_choices R) (C_Orders_ways R) (C_p_without_block R) Q_Orders_index_of
  have C_p_kept_blocks : ∀ R, Cal (jsND K (clT D0) (xcT C0 C1 C2) xfT R) P w mg base 1 "kept_blocks" 1 F_p_kept_blocks := fun R => ok_p_kept_blocks hB hC  F13 m13 b13
  have C_p_lengths_index : ∀ R, Cal (jsND K (clT D0) (xcT C0 C1 C2) xfT R) P w mg base 11 "lengths_index" 1 F_p_lengths_index := fun R => ok_p_lengths_index hB hC (C_p_lighter_lengths R) F14 m14 b14
  have C_p_exchange_index : ∀ R, CalK (jsND K (clT D0) (xcT C0 C1 C2) xfT R) P w mg base 12 "exchange_index" 1 "standard" (.bl false) F_p_exchange_index := fun R => ok_p_exchange_index hB hC (T_0 R) (C_Orders R) (C_Orders_count R) (C_Orders_index_of R) (C_p_kept_blocks R) (C_p_lengths_index R) (X_NotStandard R) F15 m15 b15 e15
  have C_p_walk_lengths : ∀ R, CalY (jsND K (clT D0) (xcT C0 C1 C2) xfT R) P w mg base 25 "walk_lengths" 2 4 Y_p_walk_lengths := fun R => ok_p_walk_lengths hB hC  F16 m16 b16
  have C_p_walk_orders : ∀ R, CalY (jsND K (clT D0) (xcT C0 C1 C2) xfT R) P w mg base 26 "walk_orders" 3 5 Y_p_walk_orders := fun R => ok_p_walk_orders hB hC (C_p_without_block R) F17 m17 b17
  have C_p_walk_exchanges : ∀ R, CalYK (jsND K (clT D0) (xcT C0 C1 C2) xfT R) P w mg base 29 "walk_exchanges" 2 "standard" (.bl false) 5 y_p_walk_exchanges := fun R => ok_p_walk_exchanges hB hC (C_p_walk_lengths R) (C_p_walk_orders R) F18 m18 b18 e18
  have C_small_right : ∀ R, Cal (jsND K (clT D0) (xcT C0 C1 C2) xfT R) P w mg base 32 "_law_small_right" 3 F_small_right := fun R => ok_small_right hB hC (C_all R) (C_p_exchange_at R) (C_p_exchange_index R) (C_p_walk_exchanges R) F19 m19 b19
  have C_choose : ∀ R, Cal (jsND K (clT D0) (xcT C0 C1 C2) xfT R) P w mg base 1 "_law_choose" 2 F_choose := fun R => ok_choose hB hC  F20 m20 b20
  have C_count : ∀ R, Cal (jsND K (clT D0) (xcT C0 C1 C2) xfT R) P w mg base 2 "_law_count" 3 F_count := fun R => ok_count hB hC (C_choose R) F21 m21 b21
  have C_large_right : ∀ R, Cal (jsND K (clT D0) (xcT C0 C1 C2) xfT R) P w mg base 32 "_law_large_right" 4 F_large_right := fun R => ok_large_right hB hC (C_count R) (C_is_standard R) (C_roll R) (C_p_exchange_at R) (C_p_exchange_index R) (C_p_walk_exchanges R) hNS F22 m22 b22
  exact ok_law hB hC C_all C_large_right C_roll C_small_right C_p_exchange_at C_p_walk_exchanges  F23 ((ok_opened hB F0).imp fun _ _ _ _ h => (open_deal (c := 4303) (by decide)) h) m0 k0 b0
end Lw
open PySem PySem.W PyProof.Rows
set_option maxRecDepth 100000 in
set_option maxHeartbeats 0 in
theorem PySem.Challenge.cw_blockturns_k43_exchanges_numbered_holds : PySem.Challenge.rw_blockturns_k43_exchanges_numbered.Holds := by
  w_on; o_law; k_head; (case hw => w_witness2)
  k_fill
  refine Mp.walk_ofG (l := PySem.Challenge.rw_blockturns_k43_exchanges_numbered) (k := 33) (x := "_law_script") rfl rfl ⟨rfl, by decide, by decide⟩ rfl (fun w h Y => PySem.W.kIn_of Y) ?F
  case F =>
    intro w mg fa h KX G hmg
    refine' Lw.all_mk KX G hmg ?sm0 ?a0 ?l0 ?c0 ?k0 ?a1 ?l1 ?c1 ?k1 ?a2 ?l2 ?c2 ?k2 ?a3 ?l3 ?c3 ?k3 ?a4 ?l4 ?c4 ?k4 ?a5 ?l5 ?c5 ?k5 ?a6 ?l6 ?c6 ?k6 ?a7 ?l7 ?c7 ?k7 ?a8 ?l8 ?c8 ?k8 ?a9 ?l9 ?c9 ?k9 ?a10 ?l10 ?c10 ?k10 ?a11 ?l11 ?c11 ?k11 ?a12 ?l12 ?c12 ?k12 ?a13 ?l13 ?c13 ?k13 ?a14 ?l14 ?c14 ?k14 ?a15 ?l15 ?c15 ?k15 ?a16 ?l16 ?c16 ?k16 ?a17 ?l17 ?c17 ?k17 ?a18 ?l18 ?c18 ?k18 ?a19 ?l19 ?c19 ?k19 ?a20 ?l20 ?c20 ?k20 ?a21 ?l21 ?c21 ?k21 ?a22 ?l22 ?c22 ?k22 ?a23 ?l23 ?c23 ?k23 ?ya0 ?ya1 ?ya2 ?yb0 ?yc0 ?yd0 ?ye0 ?yf0 ?yi0 ?yj0 ?yk0 ?yz0 ?ys0_0 ?ys0_1 ?ys0_2 ?yb1 ?yc1 ?yd1 ?ye1 ?yf1 ?yi1 ?yj1 ?yk1 ?yz1 ?ys1_0 ?ys1_1 ?ys1_2 ?yb2 ?yc2 ?yd2 ?ye2 ?yf2 ?yi2 ?yj2 ?yk2 ?yz2 ?ys2_0 ?ys2_1 ?ys2_2 ?yg ?yh ?yl1 ?yr1 ?yt1 ?yo1 ?ym1 ?yu1 ?yv1 ?yw1 ?yx1 ?yy1 ?yq2 ?yo2 ?za0 ?zb0 ?zc0 ?zd0 ?ze0 ?zm0 ?zk0 ?zn0_0 ?zn0_1 ?wa0 ?wl0 ?wc0 ?wk0 ?wf0 ?wa1 ?wl1 ?wc1 ?wk1 ?wf1 ?wa2 ?wl2 ?wc2 ?wk2 ?wf2 ?wa3 ?wl3 ?wc3 ?wk3 ?wf3 ?wa4 ?wl4 ?wc4 ?wk4 ?wf4 ?wa5 ?wl5 ?wc5 ?wk5 ?wf5 ?kd8 ?kd15 ?kd18 ?n0 ?n1 ?n2 ?n3 ?n4 ?n5 ?n6 ?n7 ?n8 ?n9 ?n10 ?n11 ?n12 
    (case sm0 => first | k_is | rfl)
    (case a0 => k_is); (case l0 => k_is); (case c0 => k_is); (case k0 => k_is)
    (case a1 => k_is); (case l1 => k_is); (case c1 => k_is); (case k1 => k_is)
    (case a2 => k_is); (case l2 => k_is); (case c2 => k_is); (case k2 => k_is)
    (case a3 => k_is); (case l3 => k_is); (case c3 => k_is); (case k3 => k_is)
    (case a4 => k_is); (case l4 => k_is); (case c4 => k_is); (case k4 => k_is)
    (case a5 => k_is); (case l5 => k_is); (case c5 => k_is); (case k5 => k_is)
    (case a6 => k_is); (case l6 => k_is); (case c6 => k_is); (case k6 => k_is)
    (case a7 => k_is); (case l7 => k_is); (case c7 => k_is); (case k7 => k_is)
    (case a8 => k_is); (case l8 => k_is); (case c8 => k_is); (case k8 => k_is)
    (case a9 => k_is); (case l9 => k_is); (case c9 => k_is); (case k9 => k_is)
    (case a10 => k_is); (case l10 => k_is); (case c10 => k_is); (case k10 => k_is)
    (case a11 => k_is); (case l11 => k_is); (case c11 => k_is); (case k11 => k_is)
    (case a12 => k_is); (case l12 => k_is); (case c12 => k_is); (case k12 => k_is)
    (case a13 => k_is); (case l13 => k_is); (case c13 => k_is); (case k13 => k_is)
    (case a14 => k_is); (case l14 => k_is); (case c14 => k_is); (case k14 => k_is)
    (case a15 => k_is); (case l15 => k_is); (case c15 => k_is); (case k15 => k_is)
    (case a16 => k_is); (case l16 => k_is); (case c16 => k_is); (case k16 => k_is)
    (case a17 => k_is); (case l17 => k_is); (case c17 => k_is); (case k17 => k_is)
    (case a18 => k_is); (case l18 => k_is); (case c18 => k_is); (case k18 => k_is)
    (case a19 => k_is); (case l19 => k_is); (case c19 => k_is); (case k19 => k_is)
    (case a20 => k_is); (case l20 => k_is); (case c20 => k_is); (case k20 => k_is)
    (case a21 => k_is); (case l21 => k_is); (case c21 => k_is); (case k21 => k_is)
    (case a22 => k_is); (case l22 => k_is); (case c22 => k_is); (case k22 => k_is)
    (case a23 => k_is); (case l23 => k_is); (case c23 => k_is); (case k23 => k_is)
    (case ya0 => k_is)
    (case ya1 => k_is)
    (case ya2 => k_is)
    (case yb0 => k_is)
    (case yc0 => k_is)
    (case yd0 => k_is)
    (case ye0 => k_is)
    (case yf0 => k_is)
    (case yi0 => k_is)
    (case yj0 => k_is)
    (case yk0 => k_is)
    (case yz0 => k_is)
    (case ys0_0 => k_is)
    (case ys0_1 => k_is)
    (case ys0_2 => k_is)
    (case yb1 => k_is)
    (case yc1 => k_is)
    (case yd1 => k_is)
    (case ye1 => k_is)
    (case yf1 => k_is)
    (case yi1 => k_is)
    (case yj1 => k_is)
    (case yk1 => k_is)
    (case yz1 => k_is)
    (case ys1_0 => k_is)
    (case ys1_1 => k_is)
    (case ys1_2 => k_is)
    (case yb2 => k_is)
    (case yc2 => k_is)
    (case yd2 => k_is)
    (case ye2 => k_is)
    (case yf2 => k_is)
    (case yi2 => k_is)
    (case yj2 => k_is)
    (case yk2 => k_is)
    (case yz2 => k_is)
    (case ys2_0 => k_is)
    (case ys2_1 => k_is)
    (case ys2_2 => k_is)
    (case yg => k_is)
    (case yh => k_is)
    (case yl1 => k_is)
    (case yr1 => first | rfl | decide +kernel)
    (case yt1 => k_is)
    (case yo1 => k_is)
    (case ym1 => k_is)
    (case yu1 => k_is)
    (case yv1 => k_is)
    (case yw1 => k_is)
    (case yx1 => k_is)
    (case yy1 => k_is)
    (case yq2 => k_exc)
    (case yo2 => k_is)
    (case za0 => k_is)
    (case zb0 => k_is)
    (case zc0 => k_is)
    (case zd0 => k_is)
    (case ze0 => k_is)
    (case zm0 => k_is)
    (case zk0 => k_is)
    (case zn0_0 => k_is)
    (case zn0_1 => k_is)
    (case wa0 => k_is)
    (case wl0 => k_is)
    (case wc0 => k_is)
    (case wk0 => k_is)
    (case wf0 => k_is)
    (case wa1 => k_is)
    (case wl1 => k_is)
    (case wc1 => k_is)
    (case wk1 => k_is)
    (case wf1 => k_is)
    (case wa2 => k_is)
    (case wl2 => k_is)
    (case wc2 => k_is)
    (case wk2 => k_is)
    (case wf2 => k_is)
    (case wa3 => k_is)
    (case wl3 => k_is)
    (case wc3 => k_is)
    (case wk3 => k_is)
    (case wf3 => k_is)
    (case wa4 => k_is)
    (case wl4 => k_is)
    (case wc4 => k_is)
    (case wk4 => k_is)
    (case wf4 => k_is)
    (case wa5 => k_is)
    (case wl5 => k_is)
    (case wc5 => k_is)
    (case wk5 => k_is)
    (case wf5 => k_is)
    (case kd8 => k_is)
    (case kd15 => k_is)
    (case kd18 => k_is)
    (case n0 => k_is)
    (case n1 => k_is)
    (case n2 => k_is)
    (case n3 => k_is)
    (case n4 => k_is)
    (case n5 => k_is)
    (case n6 => k_is)
    (case n7 => k_is)
    (case n8 => k_is)
    (case n9 => k_is)
    (case n10 => k_is)
    (case n11 => k_is)
    (case n12 => k_is)

