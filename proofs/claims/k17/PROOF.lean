import PyProof.Rows.All
import Wide.All
import OpenK.AllK
import Wide.FinOn
import PyProof.EqAt
import PyProof.EqKinds
import PyProof.TupleCall
import HandS.ForMost
import HandS.ForExc
import HandS.TupAny
import HandS.Wide
import HandS.TupMul
import HandS.Strs
import HandS.Lambda
import HandS.CallSlots
import KE.GoesNew
import KE.GoesZip
import KE.GoesEnum
import HandS.Iter
import HandS.Base
import PyProof.TupleOfSeq
import HandS.SortInts
import HandS.List
import HandS.TupLe
import HandS.Text
import HandS.RaiseMore
import HandS.IsInst
import HandS.Small
import HandS.WordsDict
import HandS.Style
import HandS.Deep
import HandS.SortRule
import HandS.SortKw
import KE.KStateDown
import HandS.Ends
import HandS.Head0
import HandS.Head1
import HandS.Head2
import HandS.HeadEnd
import HandS.HeadHook1
import HandS.HeadHook2
import HandS.EndTab
import HandS.Conv
import HandS.SetFor
import HandS.FStr
import HandS.NoneIn
import KE.DataMinMax
import HandS.Flow
import KE.KExcIs
import HandS.ExcInit
import HandS.ExcField
import HandS.ExcIs
import HandS.WordsExc
import HandS.HeadNt
import KE.DataFind
import HandS.TupSets
import KE.KDictKeyed
import KE.SortData
import PyProof.Rows.IntBool
import PyProof.CallStr
import HandS.HeadHook4
import KE.KDictWalk
import KE.KPairComp
import HandS.DictComp
import KE.KDictPairs
import HandS.Defaults
import KE.DataMinKey
import PySem.Challenge.RW_creditfloor_k17_whole_safe_forever
-- MirT
set_option Elab.async false
set_option linter.all false
set_option maxRecDepth 100000
set_option maxHeartbeats 4000000
/-! new tuples whose object is known to carry no dict -/
namespace Mi
open PySem L2 PyProof.Rows PySem.Spec
def PlT (ob : Obj) : Prop := ob.cls = .type "tuple" ∧ ob.dict = none
def NewT (H : Hp) (xs : List V) (Q : VK) : Prop := ∀ p ob, H p = none → PlT ob → Q (.ref p) (upd H p (.frz ob (.tup xs)))
section
variable {X : Cx} {pins : List (Addr × Obj)} {σ : L2.St} {H : Hp} {s : Shared} {Q : VK}
theorem laidT {its : List Value} {xs : List V} (I : Inv X pins σ H s) (r : Vals xs its) (hz : xs.length ≤ sizeLine) (q : NewT H xs Q) :
    EP X pins σ Q (.ref s.heap.objs.size) { s with heap := s.heap.push { cls := .type "tuple", data := .seq its.toArray } } :=
  ⟨.ref s.heap.objs.size, _, I.laid (t' := s.toks) (o := .frz { cls := .type "tuple", data := .seq its.toArray } (.tup xs)) (fun b ob q => Heap.get?_push_of_some _ q) (Nat.le_refl _)
    ⟨Heap.get?_push_size _ rfl, hz, its, r, IsTup.new _ _⟩, rfl, q _ _ (I.hok.fresh (Nat.le_refl _)) ⟨rfl, rfl⟩⟩
variable {es : List Expr} {t : TA} {pos : Pos}
def tTupD (t : TA) : TE := fun σ H Q => t σ H fun xs H1 => xs.length ≤ sizeLine ∧ NewT H1 xs Q
theorem pe_tupD {x1} (h : PA X es t) : PE X (.Tuple es x1 pos) (tTupD t) := by
  refine ⟨fun pins s σ H Q I hq => ?_⟩
  exact wpAny_Tuple_spliced (thn (h.run pos pins s σ H _ I hq) fun us s1 ⟨xs, H1, I1, r, z, q⟩ => ⟨by rw [← r.length]; exact z, laidT I1 r z q⟩)
/-- tuple(x) -/
theorem call_tupleD : CallR X (.type "tuple") (fun xs H Q => ∃ p ys, xs = [.ref p] ∧ ((SqL X.K H p ys ∧ NewT H ys Q) ∨ (SqT X.K H p ys ∧ Q (.ref p) H))) := by
  intro pins s σ H xs us Q I r h
  obtain ⟨p, ys, rfl, h⟩ := h
  obtain ⟨u, rfl, rx⟩ := vals1 r
  cases rx
  rcases h with ⟨hq, q⟩ | ⟨hq, q⟩
  · obtain ⟨its, r', pl, hz⟩ := I.list hq
    have hlen := r'.length
    refine call_tuple_list pl.isList (fun h' kp => ?_) (by simp only [List.size_toArray] <;> omega)
    exact laidT (s := { s with heap := h' }) (I.kept (t' := s.toks) kp) r' hz q
  · obtain ⟨its, r', pl, hz⟩ := I.tuple hq
    exact call_tuple_same pl ⟨.ref p, H, I, rfl, q⟩
/-- t[lo:hi] -/
def rSlD (K : PySem.W.Frag) : V → Option Int → Option Int → Hp → VK → Prop := fun x lo hi H Q => ∃ a xs, x = .ref a ∧ SqT K H a xs ∧
  (HT.sIx xs.length 0 lo = 0 ∧ HT.sIx xs.length xs.length hi = xs.length → Q (.ref a) H) ∧ (¬ (HT.sIx xs.length 0 lo = 0 ∧ HT.sIx xs.length xs.length hi = xs.length) → NewT H (cutV xs lo hi) Q)
theorem sl_tupD : SlR X (rSlD X.K) := by
  intro pins s σ H x v vl vu lo hi sl Q I rx hs pl pu h
  obtain ⟨a, xs, rfl, hx, q1, q2⟩ := h
  cases rx
  obtain ⟨its, r, ht, hz⟩ := I.tuple hx
  have hlen : its.toArray.size = xs.length := by rw [List.size_toArray]; exact r.length.symm
  refine ⟨"tuple", _, PyProof.Rows.slot_tuple_getitem.lookup, ht.typeIs, ?_⟩
  by_cases hw : HT.sIx xs.length 0 lo = 0 ∧ HT.sIx xs.length xs.length hi = xs.length
  · exact getItem_tuple_whole ht hs pl pu (by rw [hlen]; exact hw) ⟨.ref a, H, I, rfl, q1 hw⟩
  · refine HT.getItem_tuple_cut ht hs pl pu (by rw [hlen]; exact hw) ?_ (by rw [hlen]; exact hz)
    rw [hlen]
    exact laidT I ((r.drop (HT.sIx xs.length 0 lo)).take (HT.sIx xs.length xs.length hi - HT.sIx xs.length 0 lo)) (Nat.le_trans (cutV_length xs lo hi) hz) (q2 hw)
/-- t + u -/
def rCatD (K : PySem.W.Frag) : R2 := fun x y H Q => ∃ a b xs ys, x = .ref a ∧ y = .ref b ∧ SqT K H a xs ∧ SqT K H b ys ∧ xs.length + ys.length ≤ sizeLine ∧
  (xs = [] → Q (.ref b) H) ∧ (xs ≠ [] → ys = [] → Q (.ref a) H) ∧ (xs ≠ [] → ys ≠ [] → NewT H (xs ++ ys) Q)
theorem op_catD : OpR X (binaryOp .Add) (rCatD X.K) := by
  intro pins s σ H x y v u Q I rx ry h
  obtain ⟨a, b, xs, ys, rfl, rfl, ha, hb, hz, q0, q1, q2⟩ := h
  cases rx
  cases ry
  obtain ⟨its, r1, p1, _⟩ := I.tuple ha
  obtain ⟨its2, r2, p2, _⟩ := I.tuple hb
  by_cases hx : xs = []
  · subst hx
    cases r1
    exact cat_tup0 p1 p2 ⟨.ref b, H, I, rfl, q0 rfl⟩
  · refine HT.cat_tup p1 p2 (fun z => hx (r1.nil_iff.mp z)) (fun z => ⟨.ref a, H, I, rfl, q1 hx (r2.nil_iff.mp z)⟩) (fun z => ?_) (by rw [← r1.length, ← r2.length]; exact hz)
    exact laidT I (r1.append r2) (by rw [List.length_append]; exact hz) (q2 hx fun w => z (r2.nil_iff.mpr w))
/-! t * k -/
theorem tuple_mul1 (l : Addr) (items : Array Value) (n : Nat) (dd : Option Addr) (sl : Array (Option Value)) (x : Int) (u : Tok) (c0 : (decide (x < -(2 ^ 63)) || decide (x ≥ 2 ^ 63)) = false) (c1 : (items.isEmpty || x == 1) = true) :
    Meets (Builtin.«tuple.__mul__» ⟨[.ref l, .int x u], []⟩) (fun _ R s => s.heap.get? l = some { cls := .type "tuple", dict := dd, data := .seq items n, slots := sl } ∧ R (.ok (.ret (Value.ref l))) s) :=
  .of_wp fun prog w A R s h => by
    obtain ⟨hp, g, d, tk, os⟩ := s
    obtain ⟨hl, h⟩ := h
    have f1 := AutoSeq1.idx_int
    wp_walk using wpAny_loadPart' hl
    repeat (first
      | (refine wpAny_ite_false (decide_eq_false (by rw [c0]; exact Bool.false_ne_true)) ?_; wp_walk using wpAny_loadPart' hl)
      | (refine wpAny_ite_true (decide_eq_true c1) ?_; wp_walk using wpAny_loadPart' hl))
    exact ⟨_, rfl, h⟩
theorem tuple_mul0 (l : Addr) (items : Array Value) (n : Nat) (dd : Option Addr) (sl : Array (Option Value)) (x : Int) (u : Tok) (c0 : (decide (x < -(2 ^ 63)) || decide (x ≥ 2 ^ 63)) = false) (c1 : (items.isEmpty || x == 1) = false) (c2 : (decide (x ≤ 0) || items.isEmpty) = true) :
    Meets (Builtin.«tuple.__mul__» ⟨[.ref l, .int x u], []⟩) (fun _ R s => s.heap.get? l = some { cls := .type "tuple", dict := dd, data := .seq items n, slots := sl } ∧ R (.ok (.ret (Value.ref s.heap.objs.size))) { s with heap := s.heap.push { cls := Value.type "tuple", data := Data.seq #[] }, toks := s.toks }) :=
  .of_wp fun prog w A R s h => by
    obtain ⟨hp, g, d, tk, os⟩ := s
    obtain ⟨hl, h⟩ := h
    have f1 := AutoSeq1.idx_int
    wp_walk using wpAny_loadPart' hl
    repeat (first
      | (refine wpAny_ite_false (decide_eq_false (by rw [c0]; exact Bool.false_ne_true)) ?_; wp_walk using wpAny_loadPart' hl)
      | (refine wpAny_ite_false (decide_eq_false (by rw [c1]; exact Bool.false_ne_true)) ?_; wp_walk using wpAny_loadPart' hl)
      | (refine wpAny_ite_true (decide_eq_true c2) ?_; wp_walk using wpAny_loadPart' hl))
    exact ⟨_, rfl, h⟩
def rRepD (K : PySem.W.Frag) : R2 := fun x y H Q => ∃ l k xs, x = .ref l ∧ y = .int k ∧ SqT K H l xs ∧ -(2 ^ 63) ≤ k ∧ k ≤ 1000 ∧ xs.length ≤ 1000 ∧ (xs = [] ∨ k = 1 → Q (.ref l) H) ∧ (¬ (xs = [] ∨ k = 1) → NewT H (List.replicate k.toNat xs).flatten Q)
theorem op_repD : OpR X (binaryOp .Mult) (rRepD X.K) := by
  intro pins s σ H x y v u Q I rx ry h
  obtain ⟨l, k, xs, rfl, rfl, hT, h1, h2, hz, q1, q2⟩ := h
  cases rx
  obtain ⟨t, rfl⟩ := ry
  obtain ⟨its, r, ⟨⟨cls, dd, data, sl⟩, ho, hc1, n, hd⟩, hs⟩ := I.tuple hT
  simp only at hc1 hd
  subst hc1 hd
  have hle : its.length = xs.length := r.length.symm
  have hsz0 : its.toArray.size = xs.length := by rw [List.size_toArray, hle]
  have c0 : (decide (k < -(2 ^ 63)) || decide (k ≥ 2 ^ 63)) = false := by
    rw [decide_eq_false (by omega), decide_eq_false (by omega)] <;> rfl
  refine wpAny_binaryOp_repeat_ref (T := "tuple") (U := "int") (by decide) ⟨_, ho, rfl⟩ (fun s' => typeIs_int s' k t) noFill_tuple_mul F.fills_int_mul F.slot_int_rmul repeat_tuple F.slot_int_index.lookup
    (call_meets F.slot_int_rmul (typeIs_int s k t) F.entry_int_rmul (F.args_int_rmul_2 _ _) (int_rmul_tuple k t l its.toArray n dd sl) ⟨ho, rfl, ⟨_, ho, rfl⟩, ?_⟩)
  by_cases hc : xs = [] ∨ k = 1
  · have c1 : (its.toArray.isEmpty || k == 1) = true := by
      rcases hc with rfl | rfl
      · have e : its = [] := List.eq_nil_of_length_eq_zero hle
        subst e; rfl
      · rw [Bool.or_eq_true]; exact .inr rfl
    exact call_meets F.slot_tuple_mul ⟨_, ho, rfl⟩ F.entry_tuple_mul (F.args_tuple_mul_2 _ _) (tuple_mul1 l its.toArray n dd sl k t c0 c1) ⟨ho, .ref l, H, I, rfl, q1 hc⟩
  · have hc' : xs ≠ [] ∧ k ≠ 1 := by simpa using hc
    have hi : its.toArray.isEmpty = false := by
      cases its with
      | nil => exact absurd (List.eq_nil_of_length_eq_zero r.length) hc'.1
      | cons a b => rfl
    have c1 : (its.toArray.isEmpty || k == 1) = false := by
      rw [hi, Bool.false_or]
      exact beq_eq_false_iff_ne.mpr hc'.2
    by_cases h0 : k ≤ 0
    · have c2 : (decide (k ≤ 0) || its.toArray.isEmpty) = true := by
        rw [decide_eq_true h0]; rfl
      refine call_meets F.slot_tuple_mul ⟨_, ho, rfl⟩ F.entry_tuple_mul (F.args_tuple_mul_2 _ _) (tuple_mul0 l its.toArray n dd sl k t c0 c1 c2) ⟨ho, ?_⟩
      have e : (List.replicate k.toNat xs).flatten = [] := by
        have : k.toNat = 0 := by omega
        rw [this]; rfl
      have q := q2 hc
      rw [e] at q
      exact laidT (its := []) I .nil (Nat.zero_le _) q
    · have flen : (List.replicate k.toNat its).flatten.length ≤ sizeLine := by
        rw [PyProof.Rows.lm_len_rep_flat, hle, sizeLine_eq]
        have a1 : k.toNat * xs.length ≤ 1000 * 1000 := Nat.mul_le_mul (by omega) hz
        omega
      have hm : ((its.toArray.size : Nat) : Int) * k ≤ 1000000 := by
        rw [hsz0]
        have a1 : ((xs.length : Nat) : Int) * k ≤ 1000 * k := Int.mul_le_mul_of_nonneg_right (by omega) (by omega)
        omega
      have c2 : (decide (k ≤ 0) || its.toArray.isEmpty) = false := by
        rw [hi, Bool.or_false]
        exact decide_eq_false (by omega)
      have c4 : Builtin.Tuple.tupleTooMany (((its.toArray.size : Nat) : Int) * k) = false := by
        unfold Builtin.Tuple.tupleTooMany
        rw [sizeLine_eq]
        exact decide_eq_false (by omega)
      refine call_meets F.slot_tuple_mul ⟨_, ho, rfl⟩ F.entry_tuple_mul (F.args_tuple_mul_2 _ _) (tuple_mulW l its.toArray n dd sl k t c0 c1 c2 (by omega) c4 (by rw [size_rep, List.size_toArray]; exact flen)) ⟨ho, ?_⟩
      rw [size_rep]
      exact laidT I (r.rep k.toNat) (by rw [PyProof.Rows.lm_len_rep_flat, sizeLine_eq]; have a1 : k.toNat * xs.length ≤ 1000 * 1000 := Nat.mul_le_mul (by omega) hz; omega) (q2 hc)
end
/-! ### methods of such a tuple -/
def SqD (K : PySem.W.Frag) (H : Hp) (a : Addr) (xs : List V) : Prop := (∃ ob, H a = some (.frz ob (.tup xs)) ∧ PlT ob) ∨
  ∃ (o : Obj) (its : Array Value) (n : Nat), K.lookup a = some o ∧ o.cls = .type "tuple" ∧ o.dict = none ∧ o.data = .seq its n ∧ its.size ≤ sizeLine ∧ Vals xs its.toList
theorem SqD.sq {K : PySem.W.Frag} {H : Hp} {a : Addr} {xs : List V} (h : SqD K H a xs) : SqT K H a xs := by
  rcases h with ⟨o, h, _⟩ | ⟨o, its, n, h1, h2, _, h3⟩
  · exact .inl (.inr ⟨o, h⟩)
  · exact .inr ⟨o, its, n, h1, h2, h3⟩
section
variable {X : Cx} {pins : List (Addr × Obj)} {σ : L2.St} {H : Hp} {s : Shared} {Q : VK}
theorem SqD.obj {a : Addr} {xs : List V} (I : Inv X pins σ H s) (h : SqD X.K H a xs) : s.TypeIs (.ref a) "tuple" ∧ ∃ ob, s.heap.get? a = some ob ∧ ob.dict = none := by
  rcases h with ⟨o, h, h1, h2⟩ | ⟨o, its, n, h1, h2, h3, _⟩
  · obtain ⟨e, _⟩ := I.hok a _ h
    exact ⟨⟨o, e, h1⟩, o, e, h2⟩
  · have e := I.kIn a o h1
    exact ⟨⟨o, e, h2⟩, o, e, h3⟩
variable {o e : Expr} {es : List Expr} {to : TE} {t : TA} {name : Str} {apos cpos : Pos} {id : String} {r : V → List V → Hp → VK → Prop}
def tBMD (K : PySem.W.Frag) (r : V → List V → Hp → VK → Prop) (to : TE) (t : TA) : TE := fun σ H Q => to σ H fun x H1 => (∃ p xs, x = V.ref p ∧ SqD K H1 p xs) ∧ t σ H1 fun xs H2 => r x xs H2 Q
theorem pe_bmD (slot : Slot "tuple" name id) (hty : typeOf (.builtin id) = pure (.type "method_descriptor")) (hm : MtR X id r) (ho : PE X o to) (ha : PA X (e :: es) t)
    (hbase : attributeBase o name X.env (eval o X.env) = eval o X.env := by rfl)
    (hfew : ((backTo cpos (starEach (e :: es) X.env)).all (fun x => !x.1) && (backToKw cpos (keywordEach [] X.env)).all (fun x => x.1.isSome)
      && decide ((e :: es).length + ([] : List Keyword).length + (if ([] : List Keyword).isEmpty then 0 else 1) < 30)) = true := by rfl)
    (hline : (apos.endLine == cpos.line) = true := by rfl) (hs : starEach (e :: es) X.env = (false, eval e X.env) :: starEach es X.env := by rfl) (hplain : (backTo cpos (starEach es X.env)).any (·.1) = false := by rfl) :
    PE X (.Call (.Attribute o name apos) (e :: es) [] cpos) (tBMD X.K r to t) := by
  refine ⟨fun pins s σ H Q I h => ?_⟩
  refine wpAny_Call_method_late hbase hfew hline rfl (thn (ho.run pins s σ H _ I h) fun v s1 ⟨x, H1, I1, r1, ⟨p, xs, ex, hq⟩, q1⟩ => ?_)
  subst ex
  cases r1
  obtain ⟨h1, ob, h2, h3⟩ := hq.obj I1
  refine ⟨"tuple", id, PySem.F.plainAttrs_tuple, slot, hty, h1, fun a e => by cases e; exact ⟨ob, h2, h3⟩, ?_⟩
  have hA := ha.run cpos pins s1 σ H1 _ I1 q1
  rw [hs] at hA ⊢
  refine Calls.callWith_builtin (by show (false || (backTo cpos (starEach es X.env)).any (·.1)) = false; rw [hplain] <;> rfl) (Calls.evalArgs_plain ?_)
  exact thn hA fun us s2 ⟨vs, H2, I2, r2, q2⟩ => hm pins s2 σ H2 (.ref p) vs (.ref p) us Q I2 rfl r2 q2
/-- t.index(z), ints: the first place -/
def rTIx (K : PySem.W.Frag) : V → List V → Hp → VK → Prop := fun x xs H Q => ∃ p, ∃ ys : List Int, ∃ z j, x = V.ref p ∧ xs = [V.int z] ∧ SqT K H p (ys.map V.int) ∧ ys[j]? = some z ∧ (∀ m, m < j → ys[m]? ≠ some z) ∧ Q (.int (j : Nat)) H
theorem mt_tupIx : MtR X "tuple.index" (rTIx X.K) := by
  intro pins s σ H x xs v us Q I rx rs h
  obtain ⟨p, ys, z, j, rfl, rfl, hq, hy, hno, q⟩ := h
  cases rx
  obtain ⟨u, rfl, t, rfl⟩ := vals1 rs
  obtain ⟨its, r, pl, hz⟩ := I.tuple hq
  obtain ⟨⟨cls, dd, dt, sl⟩, ho, hc, n, hd⟩ := pl
  simp only at hc hd
  subst hc
  subst hd
  have hl : its.toArray.size = ys.length := by rw [List.size_toArray, ← r.length, List.length_map]
  have hj : j < its.toArray.size := by rw [hl]; exact (List.getElem?_eq_some_iff.mp hy).1
  have hf : (ys.map V.int).all flatV = true := by rw [List.all_map]; exact List.all_eq_true.mpr fun _ _ => rfl
  have place : ∀ (m : Nat) (hm : m < its.toArray.size), ∃ y t', ys[m]? = some y ∧ its.toArray[m] = Value.int y t' := fun m hm => by
    have hm' : m < ys.length := by rw [← hl]; exact hm
    obtain ⟨w, hw, t', hw'⟩ := r.get (i := m) (x := .int ys[m]) (by simp [hm'])
    refine ⟨ys[m], t', List.getElem?_eq_getElem hm', ?_⟩
    have e := (List.getElem?_eq_some_iff.mp hw).2
    rw [← hw', ← e]
    simp
  refine call_meets PySem.F.slot_tuple_index ⟨_, ho, rfl⟩ PySem.F.entry_tuple_index (PySem.F.args_tuple_index_2 _ _) (TI.tuple_indexAt p its.toArray n dd sl (.int z t) (eqU (.int z)) j hj ?_ ?_)
    ⟨ho, fun w hw => mem_eqAt (x := .int z) ⟨t, rfl⟩ rfl r hf w (by simpa using hw), ⟨.int (j : Nat), H, I.tok _, ⟨_, rfl⟩, q⟩⟩
  · obtain ⟨y, t', h1, h2⟩ := place j hj
    rw [hy] at h1
    cases h1
    rw [h2]
    show (z == z) = true
    exact beq_self_eq_true z
  · intro m hm hmj
    obtain ⟨y, t', h1, h2⟩ := place m hm
    rw [h2]
    show (y == z) = false
    exact beq_eq_false_iff_ne.mpr fun e => hno m hmj (e ▸ h1)
end
end Mi
-- Mir1
set_option Elab.async false
set_option linter.all false
set_option maxRecDepth 100000
set_option maxHeartbeats 2000000
namespace Mi
open PySem L2
/-- data: what a value is, objects by their contents; `loc n`: the n-th box of ours (it may change) -/
inductive D where
  | non | bl (b : Bool) | int (i : Int) | str (x : Str)
  | tup (xs : List D) | itm (xs : List D) | lst (xs : List D) | frz (xs : List D)
  | dic (ks : List Key) (xs : List D) | dct (ks : List (List Key)) (xs : List D)
  | adr (a : Addr × Addr × Str × List V) (xs : List D) | ty (n : String) | exc (c : Str) (xs : List D) | loc (n : Nat)
/-- a box's contents -/
inductive Ob where
  | lst (xs : List D) | dic (ks : List Key) (xs : List D) | dct (ks : List (List Key)) (xs : List D)
  | ins (C : Addr) (fs : List Str) (xs : List D)
  | lkd (ks : List (List Key)) (xs : List D)
/-- a dict that is walked: no one changes it meanwhile -/
def isLk : Ob → Bool
  | .lkd _ _ => true
  | _ => false
abbrev Hs := List (Option Ob)
abbrev Env := List (Option D)
/-- where the boxes stand; Z: lists that are being filled (no datum speaks of them) -/
structure Ph where
  f : Nat → Addr
  Z : Addr → Prop
instance : CoeFun Ph (fun _ => Nat → Addr) := ⟨Ph.f⟩
def own (φ : Ph) (hp : Hs) (a : Addr) : Prop := (∃ n o, hp[n]? = some (some o) ∧ φ n = a) ∨ φ.Z a
/-- the tables of the code objects in K that are not in K themselves, with the name of a lambda made there -/
def tabOf1 (K : PySem.W.Frag) (co : Addr × Obj) : Option (Addr × Str) := match co.2 with
  | ⟨_, _, .fields vs, _⟩ => match vs.toList, (vs[11]? : Option Value) with
    | _ :: .str n _ :: _, some (.ref P) => if (PySem.W.codeHdIn K co.1 P && (K.lookup P).isNone) = true then some (P, (n ++ ".<locals>.") ++ "<lambda>") else none
    | _, _ => none
  | _ => none
def tabsOf (K : PySem.W.Frag) : List (Addr × Str) := K.filterMap (tabOf1 K)
theorem tabsOf_mem {K : PySem.W.Frag} {p : Addr × Str} (h : p ∈ tabsOf K) : K.lookup p.1 = none ∧ ∃ c, PySem.W.codeHdIn K c p.1 = true := by
  obtain ⟨co, _, e⟩ := List.mem_filterMap.mp h
  unfold tabOf1 at e
  split at e
  · split at e
    · split at e <;> cases e
      rename_i q
      obtain ⟨h1, h2⟩ := Bool.and_eq_true_iff.mp q
      exact ⟨Option.isNone_iff_eq_none.mp h2, _, h1⟩
    · cases e
  · cases e
/-- a table of code objects, each with the name q -/
def TabO (H : Hp) (φ : Ph) (hp : Hs) (P : Addr) (q : Str) : Prop := ∃ ps : Array Value, H P = some (.tbl ps) ∧ TriplesOk ps.toList ∧ ∀ (pos : Pos) (cv : Value), codeAmong pos ps.toList = some cv → ∃ c, cv = .ref c ∧ H c = some (LamX.CodeO c q) ∧ ¬ own φ hp c
/-- a list that no one changes: the script -/
def SqF (K : PySem.W.Frag) (H : Hp) (a : Addr) (xs : List V) : Prop := (∃ o, H a = some (.frz o (.lst xs))) ∨
  ∃ (o : Obj) (its : Array Value) (n : Nat), K.lookup a = some o ∧ o.cls = .type "list" ∧ o.dict = none ∧ o.data = .seq its n ∧ its.size ≤ sizeLine ∧ Vals xs its.toList
theorem SqF.sq {K : PySem.W.Frag} {H : Hp} {a : Addr} {xs : List V} (h : SqF K H a xs) : SqL K H a xs := by
  rcases h with ⟨o, h⟩ | h
  · exact .inl (.inr ⟨o, h⟩)
  · exact .inr h
/-- a dict with tuples of ints as keys: its object, what it holds -/
def dcO (a : Addr) (o : Obj) : HO := .ext fun h => h.get? a = some o
def DRaw (a : Addr) (o : Obj) (es : List (List Int × Addr × Value)) : Prop :=
  (a == sysModules) = false ∧ o.ExactDict ∧ (es.map (·.1)).Nodup ∧ ∀ (P : Program) (w : World), ∃ (da : Array DictEntry) (ep : Nat), o.data = .dict da ep ∧ da.toList = es.map (entryOfKey (tupleKind (intKind P w)))
abbrev Qd := List Int × Addr × V × Value
def DH (H : Hp) (a : Addr) (ks : List (List Key)) (vs : List V) : Prop :=
  ∃ (o : Obj) (qs : List Qd), H a = some (dcO a o) ∧ DRaw a o (qs.map fun q => (q.1, q.2.1, q.2.2.2)) ∧ ks = qs.map (fun q => q.1.map Sum.inl) ∧ vs = qs.flatMap (fun q => [V.ref q.2.1, q.2.2.1]) ∧ ∀ q ∈ qs, RelV q.2.2.1 q.2.2.2
theorem DH.up {H H' : Hp} {a : Addr} {ks : List (List Key)} {vs : List V} (d : DH H a ks vs) (k : ∀ w, H a = some w → H' a = some w) : DH H' a ks vs := by
  obtain ⟨o, qs, e, r⟩ := d
  exact ⟨o, qs, k _ e, r⟩
theorem DH.at_ {H : Hp} {a : Addr} {ks : List (List Key)} {vs : List V} (d : DH H a ks vs) : ∃ o, H a = some (dcO a o) := let ⟨o, _, e, _⟩ := d; ⟨o, e⟩
/-- a caught exception's object: its class, its dict -/
def exv (C : Addr) (da : Option Addr) (a : Addr) : HO := .ext fun h => ∃ oe vs, h.get? a = some oe ∧ oe.cls = .ref C ∧ oe.dict = da ∧ oe.data = .fields vs
def XdV (H : Hp) (da : Option Addr) (vs : List V) : Prop := (vs = [] ∧ da = none) ∨ ∃ dd v, da = some dd ∧ H dd = some (.xd [(("value" : Str), v)]) ∧ vs = [v]
/-- a class's name in the module -/
def CnAt (K : PySem.W.Frag) (c : Str) (C : Addr) : Prop := PySem.W.nsIn K mainGlobals c = some (some (.ref C))
mutual
inductive Rep (K : PySem.W.Frag) (H : Hp) (φ : Ph) (hp : Hs) : V → D → Prop
  | non : Rep K H φ hp .non .non
  | bl (b : Bool) : Rep K H φ hp (.bl b) (.bl b)
  | int (i : Int) : Rep K H φ hp (.int i) (.int i)
  | str (x : Str) : Rep K H φ hp (.str x) (.str x)
  | tup {a : Addr} {vs : List V} {xs : List D} : SqD K H a vs → Reps K H φ hp vs xs → Rep K H φ hp (.ref a) (.tup xs)
  | itm {a : Addr} {vs : List V} {xs : List D} : SqT K H a vs → Reps K H φ hp vs xs → Rep K H φ hp (.ref a) (.itm xs)
  | lst {a : Addr} {vs : List V} {xs : List D} : H a = some (.lst vs) → ¬ own φ hp a → Reps K H φ hp vs xs → Rep K H φ hp (.ref a) (.lst xs)
  | frz {a : Addr} {vs : List V} {xs : List D} : SqF K H a vs → Reps K H φ hp vs xs → Rep K H φ hp (.ref a) (.frz xs)
  | dic {a : Addr} {kvs : List (Key × V)} {xs : List D} : H a = some (.dK kvs) → ¬ own φ hp a → Reps K H φ hp (kvs.map (·.2)) xs → Rep K H φ hp (.ref a) (.dic (kvs.map (·.1)) xs)
  | dct {a : Addr} {ks : List (List Key)} {vs : List V} {xs : List D} : DH H a ks vs → ¬ own φ hp a → Reps K H φ hp vs xs → Rep K H φ hp (.ref a) (.dct ks xs)
  | adr {f c : Addr} {q : Str} {vs : List V} {xs : List D} : H c = some (LamX.CodeO c q) → ¬ own φ hp c → Reps K H φ hp vs xs → Rep K H φ hp (.ref f) (.adr (f, c, q, vs) xs)
  | ty (n : String) : Rep K H φ hp (.ty n) (.ty n)
  | exc {a C : Addr} {da : Option Addr} {c : Str} {vs : List V} {xs : List D} : H a = some (exv C da a) → ¬ own φ hp a → CnAt K c C → XdV H da vs → Reps K H φ hp vs xs → Rep K H φ hp (.ref a) (.exc c xs)
  | loc {n : Nat} : n < hp.length → Rep K H φ hp (.ref (φ n)) (.loc n)
inductive Reps (K : PySem.W.Frag) (H : Hp) (φ : Ph) (hp : Hs) : List V → List D → Prop
  | nil : Reps K H φ hp [] []
  | cons {v : V} {vs : List V} {d : D} {ds : List D} : Rep K H φ hp v d → Reps K H φ hp vs ds → Reps K H φ hp (v :: vs) (d :: ds)
end
inductive ObRep (K : PySem.W.Frag) (H : Hp) (φ : Ph) (hp : Hs) (a : Addr) : Ob → Prop
  | lst {vs : List V} {xs : List D} : H a = some (.lst vs) → Reps K H φ hp vs xs → ObRep K H φ hp a (.lst xs)
  | dic {kvs : List (Key × V)} {xs : List D} : H a = some (.dK kvs) → Reps K H φ hp (kvs.map (·.2)) xs → ObRep K H φ hp a (.dic (kvs.map (·.1)) xs)
  | dct {ks : List (List Key)} {vs : List V} {xs : List D} : DH H a ks vs → Reps K H φ hp vs xs → ObRep K H φ hp a (.dct ks xs)
  | ins {C dx : Addr} {fs : List (Str × V)} {xs : List D} : H a = some (.ins C dx fs) → Reps K H φ hp (fs.map (·.2)) xs → ObRep K H φ hp a (.ins C (fs.map (·.1)) xs)
  | lkd {ks : List (List Key)} {vs : List V} {xs : List D} : DH H a ks vs → Reps K H φ hp vs xs → ObRep K H φ hp a (.lkd ks xs)
/-- the boxes stand where φ says -/
structure SR (K : PySem.W.Frag) (H : Hp) (φ : Ph) (hp : Hs) : Prop where
  inj : ∀ i j o o', hp[i]? = some (some o) → hp[j]? = some (some o') → φ i = φ j → i = j
  obs : ∀ n o, hp[n]? = some (some o) → ObRep K H φ hp (φ n) o
  zn : ∀ n o, hp[n]? = some (some o) → isLk o = false → ¬ φ.Z (φ n)
  zs : ∀ a, φ.Z a → (∃ vs, H a = some (.lst vs)) ∨ (∃ ps, H a = some (.tbl ps)) ∨ ∃ f, H a = some (.ext f)
  tb : ∀ p ∈ tabsOf K, φ.Z p.1 ∧ TabO H φ hp p.1 p.2
theorem nl_app {hp : Hs} {ob : Ob} (hk : isLk ob = false) : ∀ (n : Nat) ks xs, (hp ++ [some ob])[n]? = some (some (Ob.lkd ks xs)) → ∃ ks xs, hp[n]? = some (some (Ob.lkd ks xs)) := fun n ks xs h => by
  by_cases hn : n < hp.length
  · rw [List.getElem?_append_left hn] at h; exact ⟨ks, xs, h⟩
  · rw [List.getElem?_append_right (Nat.le_of_not_lt hn)] at h
    have h1 := (List.getElem?_eq_some_iff.mp h).1
    have e : n - hp.length = 0 := by simp at h1; omega
    rw [e] at h
    have h : ob = .lkd ks xs := by simpa using h
    subst h
    cases hk
theorem nl_set {hp : Hs} {ob : Ob} {m : Nat} (hk : isLk ob = false) : ∀ (n : Nat) ks xs, (hp.set m (some ob))[n]? = some (some (Ob.lkd ks xs)) → ∃ ks xs, hp[n]? = some (some (Ob.lkd ks xs)) := fun n ks xs h => by
  by_cases e : m = n
  · subst e
    by_cases hm : m < hp.length
    · rw [List.getElem?_set_self hm] at h
      have h : ob = .lkd ks xs := by simpa using h
      subst h
      cases hk
    · rw [List.getElem?_eq_none (by rw [List.length_set]; omega)] at h; cases h
  · rw [List.getElem?_set_ne e] at h; exact ⟨ks, xs, h⟩
/-- what is needed to keep a datum -/
structure Sub (H : Hp) (φ : Ph) (hp : Hs) (H' : Hp) (φ' : Ph) (hp' : Hs) : Prop where
  len : hp.length ≤ hp'.length
  ph : ∀ n, n < hp.length → φ' n = φ n
  kp : ∀ a u, H a = some u → ¬ own φ hp a → H' a = some u
  fr : ∀ a, own φ' hp' a → own φ hp a ∨ H a = none
  zk : ∀ a, φ.Z a → (∀ ps, H a ≠ some (.tbl ps)) → H' a = H a
  nl : ∀ (n : Nat) ks xs, hp'[n]? = some (some (Ob.lkd ks xs)) → ∃ ks xs, hp[n]? = some (some (Ob.lkd ks xs))
structure Ext (H : Hp) (φ : Ph) (hp : Hs) (H' : Hp) (φ' : Ph) (hp' : Hs) : Prop extends Sub H φ hp H' φ' hp' where
  th : ∀ a u, H a = some u → ∃ u', H' a = some u'
  zz : φ'.Z = φ.Z
section
variable {K : PySem.W.Frag} {H H' H1 H2 : Hp} {φ φ' φ1 φ2 : Ph} {hp hp' hp1 hp2 : Hs} {v : V} {d : D} {vs : List V} {ds : List D} {a p : Addr}
theorem Ext.refl : Ext H φ hp H φ hp := ⟨⟨Nat.le_refl _, fun _ _ => rfl, fun _ _ h _ => h, fun _ h => .inl h, fun _ _ _ => rfl, fun _ ks xs h => ⟨ks, xs, h⟩⟩, fun _ u h => ⟨u, h⟩, rfl⟩
theorem Ext.trans (x : Ext H φ hp H1 φ1 hp1) (y : Ext H1 φ1 hp1 H2 φ2 hp2) : Ext H φ hp H2 φ2 hp2 where
  len := Nat.le_trans x.len y.len
  ph := fun n h => (y.ph n (Nat.lt_of_lt_of_le h x.len)).trans (x.ph n h)
  kp := fun a u h no => y.kp a u (x.kp a u h no) fun o => by
    rcases x.fr a o with q | q
    · exact no q
    · rw [h] at q; cases q
  th := fun a u h => by
    obtain ⟨u1, h1⟩ := x.th a u h
    exact y.th a u1 h1
  fr := fun a o => by
    rcases y.fr a o with q | q
    · exact x.fr a q
    · refine .inr ?_
      cases h : H a with
      | none => rfl
      | some u =>
        obtain ⟨u1, h1⟩ := x.th a u h
        rw [q] at h1; cases h1
  zz := y.zz.trans x.zz
  zk := fun a z n => (y.zk a (by rw [x.zz]; exact z) (by rw [x.zk a z n]; exact n)).trans (x.zk a z n)
  nl := fun n ks xs h => by
    obtain ⟨_, _, h⟩ := y.nl n _ _ h
    exact x.nl n _ _ h
theorem TabO.mono {P : Addr} {q : Str} (x : Sub H φ hp H' φ' hp') (hP : H' P = H P) (t : TabO H φ hp P q) : TabO H' φ' hp' P q := by
  obtain ⟨ps, h1, h2, h3⟩ := t
  refine ⟨ps, hP.trans h1, h2, fun pos cv hc => ?_⟩
  obtain ⟨c, e, h, no⟩ := h3 pos cv hc
  refine ⟨c, e, x.kp _ _ h no, fun o => ?_⟩
  rcases x.fr _ o with z | z
  · exact no z
  · rw [h] at z; cases z
theorem SR.own_not_tup (s : SR K H φ hp) (h : H a = some (.tup vs)) : ¬ own φ hp a := fun w => by
  rcases w with ⟨n, o, h1, h2⟩ | w
  case inr => rcases s.zs a w with ⟨vs, e⟩ | ⟨vs, e⟩ | ⟨vs, e⟩ <;> (rw [h] at e; cases e)
  have q := s.obs n o h1
  rw [h2] at q
  cases q with
  | lst e _ => rw [h] at e; cases e
  | dic e _ => rw [h] at e; cases e
  | dct e _ => obtain ⟨_, e⟩ := e.at_; rw [h] at e; cases e
  | lkd e _ => obtain ⟨_, e⟩ := e.at_; rw [h] at e; cases e
  | ins e _ => rw [h] at e; cases e
theorem SR.own_not_frz {o : Obj} {u : HO} (s : SR K H φ hp) (h : H a = some (.frz o u)) : ¬ own φ hp a := fun w => by
  rcases w with ⟨n, o, h1, h2⟩ | w
  case inr => rcases s.zs a w with ⟨vs, e⟩ | ⟨vs, e⟩ | ⟨vs, e⟩ <;> (rw [h] at e; cases e)
  have q := s.obs n o h1
  rw [h2] at q
  cases q with
  | lst e _ => rw [h] at e; cases e
  | dic e _ => rw [h] at e; cases e
  | dct e _ => obtain ⟨_, e⟩ := e.at_; rw [h] at e; cases e
  | lkd e _ => obtain ⟨_, e⟩ := e.at_; rw [h] at e; cases e
  | ins e _ => rw [h] at e; cases e
theorem SR.own_not_xd {fs : List (Str × V)} (s : SR K H φ hp) (h : H a = some (.xd fs)) : ¬ own φ hp a := fun w => by
  rcases w with ⟨n, o, h1, h2⟩ | w
  case inr => rcases s.zs a w with ⟨vs, e⟩ | ⟨vs, e⟩ | ⟨vs, e⟩ <;> (rw [h] at e; cases e)
  have q := s.obs n o h1
  rw [h2] at q
  cases q with
  | lst e _ => rw [h] at e; cases e
  | dic e _ => rw [h] at e; cases e
  | dct e _ => obtain ⟨_, e⟩ := e.at_; rw [h] at e; cases e
  | lkd e _ => obtain ⟨_, e⟩ := e.at_; rw [h] at e; cases e
  | ins e _ => rw [h] at e; cases e
theorem XdV.mono {da : Option Addr} {vs : List V} (s : SR K H φ hp) (x : Sub H φ hp H' φ' hp') (r : XdV H da vs) : XdV H' da vs := by
  rcases r with r | ⟨dd, v, e, h, r⟩
  · exact .inl r
  · exact .inr ⟨dd, v, e, x.kp _ _ h (s.own_not_xd h), r⟩
theorem SR.own_some (s : SR K H φ hp) (h : own φ hp a) : ∃ u, H a = some u := by
  rcases h with ⟨n, o, h1, h2⟩ | w
  case inr => rcases s.zs a w with ⟨vs, e⟩ | ⟨vs, e⟩ | ⟨vs, e⟩ <;> exact ⟨_, e⟩
  have q := s.obs n o h1
  rw [h2] at q
  cases q with
  | lst e _ => exact ⟨_, e⟩
  | dic e _ => exact ⟨_, e⟩
  | dct e _ => obtain ⟨_, e⟩ := e.at_; exact ⟨_, e⟩
  | lkd e _ => obtain ⟨_, e⟩ := e.at_; exact ⟨_, e⟩
  | ins e _ => exact ⟨_, e⟩
theorem ext_sqT (s : SR K H φ hp) (x : Sub H φ hp H' φ' hp') (h : SqT K H a vs) : SqT K H' a vs := by
  rcases h with (h | ⟨o, h⟩) | h
  · exact .inl (.inl (x.kp _ _ h (s.own_not_tup h)))
  · exact .inl (.inr ⟨o, x.kp _ _ h (s.own_not_frz h)⟩)
  · exact .inr h
theorem ext_sqD (s : SR K H φ hp) (x : Sub H φ hp H' φ' hp') (h : SqD K H a vs) : SqD K H' a vs := by
  rcases h with ⟨o, h, p⟩ | h
  · exact .inl ⟨o, x.kp _ _ h (s.own_not_frz h), p⟩
  · exact .inr h
theorem ext_sqF (s : SR K H φ hp) (x : Sub H φ hp H' φ' hp') (h : SqF K H a vs) : SqF K H' a vs := by
  rcases h with ⟨o, h⟩ | h
  · exact .inl ⟨o, x.kp _ _ h (s.own_not_frz h)⟩
  · exact .inr h
mutual
theorem Rep.monoS (s : SR K H φ hp) (x : Sub H φ hp H' φ' hp') : ∀ {v : V} {d : D}, Rep K H φ hp v d → Rep K H' φ' hp' v d
  | _, _, .non => .non
  | _, _, .bl b => .bl b
  | _, _, .int b => .int b
  | _, _, .str b => .str b
  | _, _, .tup h r => .tup (ext_sqD s x h) (Reps.monoS s x r)
  | _, _, .itm h r => .itm (ext_sqT s x h) (Reps.monoS s x r)
  | _, _, .lst h no r => .lst (x.kp _ _ h no) (fun o => by
      rcases x.fr _ o with q | q
      · exact no q
      · rw [h] at q; cases q) (Reps.monoS s x r)
  | _, _, .frz h r => .frz (ext_sqF s x h) (Reps.monoS s x r)
  | _, _, .dic h no r => .dic (x.kp _ _ h no) (fun o => by
      rcases x.fr _ o with q | q
      · exact no q
      · rw [h] at q; cases q) (Reps.monoS s x r)
  | _, _, .dct h no r => .dct (h.up fun w e => x.kp _ _ e no) (fun o => by
      rcases x.fr _ o with q | q
      · exact no q
      · obtain ⟨_, e⟩ := h.at_; rw [e] at q; cases q) (Reps.monoS s x r)
  | _, _, .adr h no r => .adr (x.kp _ _ h no) (fun o => by
      rcases x.fr _ o with q | q
      · exact no q
      · rw [h] at q; cases q) (Reps.monoS s x r)
  | _, _, .ty a => .ty a
  | _, _, .exc h no c q r => .exc (x.kp _ _ h no) (fun o => by
      rcases x.fr _ o with q | q
      · exact no q
      · rw [h] at q; cases q) c (q.mono s x) (Reps.monoS s x r)
  | _, _, .loc (n := n) h => by
      rw [← x.ph n h]
      exact .loc (Nat.lt_of_lt_of_le h x.len)
theorem Reps.monoS (s : SR K H φ hp) (x : Sub H φ hp H' φ' hp') : ∀ {vs : List V} {ds : List D}, Reps K H φ hp vs ds → Reps K H' φ' hp' vs ds
  | _, _, .nil => .nil
  | _, _, .cons r rs => .cons (Rep.monoS s x r) (Reps.monoS s x rs)
end
theorem Rep.mono (s : SR K H φ hp) (x : Ext H φ hp H' φ' hp') (r : Rep K H φ hp v d) : Rep K H' φ' hp' v d := r.monoS s x.toSub
theorem Reps.mono (s : SR K H φ hp) (x : Ext H φ hp H' φ' hp') (r : Reps K H φ hp vs ds) : Reps K H' φ' hp' vs ds := r.monoS s x.toSub
theorem Reps.length (r : Reps K H φ hp vs ds) : vs.length = ds.length := by
  induction ds generalizing vs with
  | nil => cases r; rfl
  | cons d ds ih => cases r with | cons r rs => simp [ih rs]
theorem Reps.get (r : Reps K H φ hp vs ds) {i : Nat} {d : D} (h : ds[i]? = some d) : ∃ v, vs[i]? = some v ∧ Rep K H φ hp v d := by
  induction ds generalizing vs i with
  | nil => simp at h
  | cons e ds ih =>
    cases r with
    | cons r rs =>
      cases i with
      | zero => simp at h; subst h; exact ⟨_, rfl, r⟩
      | succ i => simpa using ih rs (by simpa using h)
theorem Reps.append {vs' : List V} {ds' : List D} (r : Reps K H φ hp vs ds) (r' : Reps K H φ hp vs' ds') : Reps K H φ hp (vs ++ vs') (ds ++ ds') := by
  induction ds generalizing vs with
  | nil => cases r; exact r'
  | cons d ds ih => cases r with | cons r rs => exact .cons r (ih rs)
theorem Reps.one (r : Rep K H φ hp v d) : Reps K H φ hp [v] [d] := .cons r .nil
theorem Reps.take (n : Nat) (r : Reps K H φ hp vs ds) : Reps K H φ hp (vs.take n) (ds.take n) := by
  induction n generalizing vs ds with
  | zero => simp; exact .nil
  | succ n ih => cases r with
    | nil => simp; exact .nil
    | cons r rs => simp; exact .cons r (ih rs)
theorem Reps.drop (n : Nat) (r : Reps K H φ hp vs ds) : Reps K H φ hp (vs.drop n) (ds.drop n) := by
  induction n generalizing vs ds with
  | zero => simpa using r
  | succ n ih => cases r with
    | nil => simp; exact .nil
    | cons r rs => simpa using ih rs
theorem Reps.set {i : Nat} (r : Reps K H φ hp vs ds) (q : Rep K H φ hp v d) : Reps K H φ hp (vs.set i v) (ds.set i d) := by
  induction ds generalizing vs i with
  | nil => cases r; simp; exact .nil
  | cons e ds ih => cases r with
    | cons r rs => cases i with
      | zero => simp; exact .cons q rs
      | succ i => simp; exact .cons r (ih rs)
theorem Reps.ints : ∀ {ns : List Int}, Reps K H φ hp vs (ns.map D.int) → vs = ns.map V.int := by
  intro ns
  induction ns generalizing vs with
  | nil => intro r; cases r; rfl
  | cons n ns ih => intro r; cases r with | cons r rs => cases r; rw [List.map_cons, ← ih rs]
theorem Reps.ofInts (ns : List Int) : Reps K H φ hp (ns.map V.int) (ns.map D.int) := by
  induction ns with
  | nil => exact .nil
  | cons n ns ih => exact .cons (.int n) ih
end
end Mi
-- Mir2
set_option Elab.async false
set_option linter.all false
set_option maxRecDepth 100000
set_option maxHeartbeats 2000000
namespace Mi
open PySem L2
inductive Out (α : Type) where
  | ok (a : α) | ex (c : Str) (d : Option D)
abbrev M (α : Type) := Env → Hs → Option (Out α × Hs)
inductive Fl where
  | nx | rt (d : D) | bk | ct | ex (c : Str) (d : Option D)
abbrev MS := Env → Hs → Option (Fl × Env × Hs)
/-- slots -/
def Sls (K : PySem.W.Frag) (H : Hp) (φ : Ph) (hp : Hs) (σ : L2.St) (env : Env) : Prop :=
  σ.length = env.length ∧ ∀ (i : Nat) (d : D), env[i]? = some (some d) → ∃ v : V, σ[i]? = some (some v) ∧ Rep K H φ hp v d
/-- an exception of ours: its class by name, its own dict holds the value -/
def XRep (K : PySem.W.Frag) (mg : Str → Option Value) (H : Hp) (φ : Ph) (hp : Hs) (c : Str) (d : Option D) (cls : Value) (da : Option Addr) : Prop :=
  ∃ C, mg c = some (.ref C) ∧ cls = .ref C ∧ match d with
    | some d => ∃ a v, da = some a ∧ H a = some (.xd [(("value" : Str), v)]) ∧ Rep K H φ hp v d
    | none => da = none
def FinE (X : Cx) (W : WX) (σ : L2.St) (H : Hp) (φ : Ph) (hp : Hs) (o : Out D) (hp' : Hs) (Q : VK) : Prop :=
  ∀ H' φ', Ext H φ hp H' φ' hp' → SR X.K H' φ' hp' → match o with
    | .ok d => ∀ v, Rep X.K H' φ' hp' v d → Q v H'
    | .ex c d => ∀ cls da, XRep X.K X.mg H' φ' hp' c d cls da → W cls da σ H'
def FinT (X : Cx) (W : WX) (σ : L2.St) (H : Hp) (φ : Ph) (hp : Hs) (o : Out Bool) (hp' : Hs) (Q : Bool → Hp → Prop) : Prop :=
  ∀ H' φ', Ext H φ hp H' φ' hp' → SR X.K H' φ' hp' → match o with
    | .ok b => Q b H'
    | .ex c d => ∀ cls da, XRep X.K X.mg H' φ' hp' c d cls da → W cls da σ H'
def FinA (X : Cx) (W : WX) (σ : L2.St) (H : Hp) (φ : Ph) (hp : Hs) (o : Out (List D)) (hp' : Hs) (Q : List V → Hp → Prop) : Prop :=
  ∀ H' φ', Ext H φ hp H' φ' hp' → SR X.K H' φ' hp' → match o with
    | .ok ds => ∀ vs, Reps X.K H' φ' hp' vs ds → Q vs H'
    | .ex c d => ∀ cls da, XRep X.K X.mg H' φ' hp' c d cls da → W cls da σ H'
/-- .. a new list, laid last -/
def FinN (X : Cx) (W : WX) (σ : L2.St) (H : Hp) (φ : Ph) (hp : Hs) (o : Out (List D)) (hp' : Hs) (Q : VK) : Prop :=
  ∀ H' φ', Ext H φ hp H' φ' hp' → SR X.K H' φ' hp' → match o with
    | .ok ds => ∀ p vs, H' p = none → Reps X.K H' φ' hp' vs ds → Q (.ref p) (upd H' p (.lst vs))
    | .ex c d => ∀ cls da, XRep X.K X.mg H' φ' hp' c d cls da → W cls da σ H'
def FinS (X : Cx) (W : WX) (H : Hp) (φ : Ph) (hp : Hs) (fl : Fl) (env' : Env) (hp' : Hs) (D : Ends) : Prop :=
  ∀ σ' H' φ', Ext H φ hp H' φ' hp' → SR X.K H' φ' hp' → Sls X.K H' φ' hp' σ' env' → match fl with
    | .nx => D.nx σ' H'
    | .rt d => ∀ v, Rep X.K H' φ' hp' v d → D.rt v H'
    | .bk => D.bk σ' H'
    | .ct => D.ct σ' H'
    | .ex c d => ∀ cls da, XRep X.K X.mg H' φ' hp' c d cls da → W cls da σ' H'
def TEok (X : Cx) (W : WX) (t : TE) (m : M D) : Prop := ∀ σ H φ env hp o hp', SR X.K H φ hp → Sls X.K H φ hp σ env → m env hp = some (o, hp') → ∀ Q, FinE X W σ H φ hp o hp' Q → t σ H Q
def TTok (X : Cx) (W : WX) (t : TT) (m : M Bool) : Prop := ∀ σ H φ env hp o hp', SR X.K H φ hp → Sls X.K H φ hp σ env → m env hp = some (o, hp') → ∀ Q, FinT X W σ H φ hp o hp' Q → t σ H Q
def TAok (X : Cx) (W : WX) (t : TA) (m : M (List D)) : Prop := ∀ σ H φ env hp o hp', SR X.K H φ hp → Sls X.K H φ hp σ env → m env hp = some (o, hp') → ∀ Q, FinA X W σ H φ hp o hp' Q → t σ H Q
def TNok (X : Cx) (W : WX) (t : TE) (m : M (List D)) : Prop := ∀ σ H φ env hp o hp', SR X.K H φ hp → Sls X.K H φ hp σ env → m env hp = some (o, hp') → ∀ Q, FinN X W σ H φ hp o hp' Q → t σ H Q
def TSok (X : Cx) (W : WX) (t : TS) (m : MS) : Prop := ∀ σ H φ env hp fl env' hp', SR X.K H φ hp → Sls X.K H φ hp σ env → m env hp = some (fl, env', hp') → ∀ D, FinS X W H φ hp fl env' hp' D → t D σ H
def DE (X : Cx) (W : WX) (e : Expr) (m : M D) : Prop := ∃ t, PE X e t ∧ TEok X W t m
def DT (X : Cx) (W : WX) (e : Expr) (m : M Bool) : Prop := ∃ t, PT X e t ∧ TTok X W t m
def DW (X : Cx) (W : WX) (e : Expr) (m : M Bool) : Prop := ∃ t, PW X e t ∧ TTok X W t m
def DA (X : Cx) (W : WX) (es : List Expr) (m : M (List D)) : Prop := ∃ t, PA X es t ∧ TAok X W t m
def DN (X : Cx) (W : WX) (e : Expr) (m : M (List D)) : Prop := ∃ t, PE X e t ∧ TNok X W t m
def DS (X : Cx) (W : WX) (st : Stmt) (m : MS) : Prop := ∃ t, PS X st t ∧ TSok X W t m
def DSs (X : Cx) (W : WX) (sts : List Stmt) (m : MS) : Prop := ∃ t, PSs X sts t ∧ TSok X W t m
section
variable {X : Cx} {W : WX} {K : PySem.W.Frag} {H H' H1 H2 : Hp} {φ φ' φ1 φ2 : Ph} {hp hp' hp1 hp2 : Hs} {v : V} {d : D} {vs : List V} {ds : List D} {a p : Addr} {σ : L2.St} {env : Env} {Q : VK}
theorem Sls.mono (s : SR K H φ hp) (x : Ext H φ hp H' φ' hp') (l : Sls K H φ hp σ env) : Sls K H' φ' hp' σ env :=
  ⟨l.1, fun i d h => let ⟨v, e, r⟩ := l.2 i d h; ⟨v, e, r.mono s x⟩⟩
theorem XRep.mono {c : Str} {d : Option D} {cls : Value} {da : Option Addr} {mg : Str → Option Value} (s : SR K H φ hp) (x : Ext H φ hp H' φ' hp') (r : XRep K mg H φ hp c d cls da) : XRep K mg H' φ' hp' c d cls da := by
  obtain ⟨C, h1, h2, h3⟩ := r
  refine ⟨C, h1, h2, ?_⟩
  cases d with
  | none => exact h3
  | some d =>
    obtain ⟨a, v, e, h, r⟩ := h3
    refine ⟨a, v, e, x.kp _ _ h fun o => ?_, r.mono s x⟩
    rcases o with ⟨n, ob, h1, h2⟩ | w
    case inr => rcases s.zs a w with ⟨vs, e⟩ | ⟨vs, e⟩ | ⟨vs, e⟩ <;> (rw [h] at e; cases e)
    have q := s.obs n ob h1
    rw [h2] at q
    cases q with
    | lst e _ => rw [h] at e; cases e
    | dic e _ => rw [h] at e; cases e
    | dct e _ => obtain ⟨_, e⟩ := e.at_; rw [h] at e; cases e
    | lkd e _ => obtain ⟨_, e⟩ := e.at_; rw [h] at e; cases e
    | ins e _ => rw [h] at e; cases e
theorem FinE.ok (f : FinE X W σ H φ hp (.ok d) hp' Q) (x : Ext H φ hp H' φ' hp') (s : SR X.K H' φ' hp') (r : Rep X.K H' φ' hp' v d) : Q v H' := f H' φ' x s v r
/-! ### heaps -/
/-- a new object, not a box -/
theorem Ext.new {u : HO} (s : SR K H φ hp) (h : H p = none) : Ext H φ hp (upd H p u) φ hp where
  len := Nat.le_refl _
  ph := fun _ _ => rfl
  kp := fun a o e _ => by rw [upd_ne (ne_of_none e h)]; exact e
  th := fun a o e => ⟨o, by rw [upd_ne (ne_of_none e h)]; exact e⟩
  fr := fun _ o => .inl o
  zz := rfl
  nl := fun _ ks xs h => ⟨ks, xs, h⟩
  zk := fun a z _ => by
    by_cases e : a = p
    · rcases s.zs a z with ⟨vs, q⟩ | ⟨vs, q⟩ | ⟨vs, q⟩ <;> (rw [e, h] at q; cases q)
    · exact upd_ne e
theorem SR.mono_same (s : SR K H φ hp) (x : Ext H φ hp H' φ' hp) (hob : ∀ n o, hp[n]? = some (some o) → ∀ u, H (φ n) = some u → H' (φ n) = some u) (hz : ∀ a, φ.Z a → H' a = H a) : SR K H' φ' hp where
  zn := fun n o h hk => by rw [x.zz, x.ph n (List.getElem?_eq_some_iff.mp h).1]; exact s.zn n o h hk
  zs := fun a z => by rw [x.zz] at z; rw [hz a z]; exact s.zs a z
  tb := fun p hp => by
    obtain ⟨h1, h2⟩ := s.tb p hp
    exact ⟨by rw [x.zz]; exact h1, h2.mono x.toSub (hz _ h1)⟩
  inj := fun i j o o' h1 h2 e => s.inj i j o o' h1 h2 (by
    rw [x.ph i (List.getElem?_eq_some_iff.mp h1).1, x.ph j (List.getElem?_eq_some_iff.mp h2).1] at e; exact e)
  obs := fun n o h => by
    rw [x.ph n (List.getElem?_eq_some_iff.mp h).1]
    have k := hob n o h
    cases s.obs n o h with
    | lst q r => exact .lst (k _ q) (r.mono s x)
    | dic q r => exact .dic (k _ q) (r.mono s x)
    | dct q r => exact .dct (q.up k) (r.mono s x)
    | lkd q r => exact .lkd (q.up k) (r.mono s x)
    | ins q r => exact .ins (k _ q) (r.mono s x)
theorem SR.new {u : HO} (s : SR K H φ hp) (h : H p = none) : SR K (upd H p u) φ hp :=
  s.mono_same (Ext.new s h) (fun n o _ w e => by rw [upd_ne (ne_of_none e h)]; exact e) fun a z => by
    by_cases e : a = p
    · rcases s.zs a z with ⟨vs, q⟩ | ⟨vs, q⟩ | ⟨vs, q⟩ <;> (rw [e, h] at q; cases q)
    · exact upd_ne e
theorem SR.fresh (s : SR K H φ hp) (h : H p = none) : ¬ own φ hp p := fun o => by
  obtain ⟨u, e⟩ := s.own_some o
  rw [h] at e; cases e
/-- a box of its own -/
def bx (φ : Ph) (n : Nat) (p : Addr) : Ph := ⟨fun i => if i = n then p else φ i, φ.Z⟩
theorem bx_same {n : Nat} : bx φ n p n = p := if_pos rfl
theorem bx_ne {n i : Nat} (h : i ≠ n) : bx φ n p i = φ i := if_neg h
theorem own_box {ob : Ob} (h : own (bx φ hp.length p) (hp ++ [some ob]) a) : own φ hp a ∨ a = p := by
  rcases h with ⟨n, o, h1, h2⟩ | w
  case inr => exact .inl (.inr w)
  by_cases hn : n < hp.length
  · rw [List.getElem?_append_left hn] at h1
    rw [bx_ne (Nat.ne_of_lt hn)] at h2
    exact .inl (.inl ⟨n, o, h1, h2⟩)
  · rw [List.getElem?_append_right (Nat.le_of_not_lt hn)] at h1
    have : n = hp.length := by
      have := (List.getElem?_eq_some_iff.mp h1).1
      simp at this; omega
    subst this
    rw [bx_same] at h2
    exact .inr h2.symm
theorem Ext.box {u : HO} {ob : Ob} (s : SR K H φ hp) (h : H p = none) (hk : isLk ob = false := by rfl) : Ext H φ hp (upd H p u) (bx φ hp.length p) (hp ++ [some ob]) where
  len := by simp
  ph := fun n hn => bx_ne (Nat.ne_of_lt hn)
  kp := fun a o e _ => by rw [upd_ne (ne_of_none e h)]; exact e
  th := fun a o e => ⟨o, by rw [upd_ne (ne_of_none e h)]; exact e⟩
  fr := fun a o => (own_box o).imp id fun e => by rw [e]; exact h
  zz := rfl
  nl := nl_app hk
  zk := fun a z _ => by
    by_cases e : a = p
    · rcases s.zs a z with ⟨vs, q⟩ | ⟨vs, q⟩ | ⟨vs, q⟩ <;> (rw [e, h] at q; cases q)
    · exact upd_ne e
theorem SR.box {u : HO} {ob : Ob} (s : SR K H φ hp) (h : H p = none) (r : ObRep K (upd H p u) (bx φ hp.length p) (hp ++ [some ob]) p ob) (hk : isLk ob = false := by rfl) : SR K (upd H p u) (bx φ hp.length p) (hp ++ [some ob]) := by
  have old : ∀ n o, n < hp.length → (hp ++ [some ob])[n]? = some (some o) → hp[n]? = some (some o) := fun n o hn e => by
    rw [List.getElem?_append_left hn] at e; exact e
  have new : ∀ n o, ¬ n < hp.length → (hp ++ [some ob])[n]? = some (some o) → n = hp.length ∧ o = ob := fun n o hn e => by
    rw [List.getElem?_append_right (Nat.le_of_not_lt hn)] at e
    have h1 := (List.getElem?_eq_some_iff.mp e).1
    simp at h1
    have h2 : n = hp.length := by omega
    subst h2
    simp at e
    exact ⟨rfl, e.symm⟩
  have far : ∀ n o, hp[n]? = some (some o) → φ n ≠ p := fun n o e q => by
    refine s.fresh h (.inl ⟨n, o, e, q⟩)
  have zp : ¬ φ.Z p := fun z => by rcases s.zs p z with ⟨vs, q⟩ | ⟨vs, q⟩ | ⟨vs, q⟩ <;> (rw [h] at q; cases q)
  refine ⟨fun i j o o' h1 h2 e => ?_, fun n o e => ?_, fun n o e hk2 => ?_, fun a z => ?_, fun t ht => ?_⟩
  case refine_5 =>
    obtain ⟨h1, h2⟩ := s.tb t ht
    exact ⟨h1, h2.mono (Ext.box s h hk).toSub (upd_ne fun e => zp (by rw [← e]; exact h1))⟩
  case refine_3 =>
    by_cases hn : n < hp.length
    · rw [bx_ne (Nat.ne_of_lt hn)]; exact s.zn n o (old n o hn e) hk2
    · obtain ⟨rfl, _⟩ := new n o hn e
      rw [bx_same]; exact zp
  case refine_4 =>
    have ne : a ≠ p := fun e => zp (by rw [← e]; exact z)
    rw [upd_ne ne]; exact s.zs a z
  · by_cases hi : i < hp.length
    · by_cases hj : j < hp.length
      · rw [bx_ne (Nat.ne_of_lt hi), bx_ne (Nat.ne_of_lt hj)] at e
        exact s.inj i j o o' (old i o hi h1) (old j o' hj h2) e
      · obtain ⟨rfl, _⟩ := new j o' hj h2
        rw [bx_ne (Nat.ne_of_lt hi), bx_same] at e
        exact absurd e (far i o (old i o hi h1))
    · obtain ⟨rfl, _⟩ := new i o hi h1
      by_cases hj : j < hp.length
      · rw [bx_ne (Nat.ne_of_lt hj), bx_same] at e
        exact absurd e.symm (far j o' (old j o' hj h2))
      · exact (new j o' hj h2).1.symm
  · by_cases hn : n < hp.length
    · have e' := old n o hn e
      rw [bx_ne (Nat.ne_of_lt hn)]
      have x : Ext H φ hp (upd H p u) (bx φ hp.length p) (hp ++ [some ob]) := Ext.box s h hk
      have k : ∀ w, H (φ n) = some w → upd H p u (φ n) = some w := fun w q => by rw [upd_ne (far n o e')]; exact q
      cases s.obs n o e' with
      | lst q r => exact .lst (k _ q) (r.mono s x)
      | dic q r => exact .dic (k _ q) (r.mono s x)
      | dct q r => exact .dct (q.up k) (r.mono s x)
      | lkd q r => exact .lkd (q.up k) (r.mono s x)
      | ins q r => exact .ins (k _ q) (r.mono s x)
    · obtain ⟨rfl, rfl⟩ := new n o hn e
      rw [bx_same]
      exact r
/-- a box changes -/
theorem own_set {n : Nat} {ob o0 : Ob} (h0 : hp[n]? = some (some o0)) : own φ (hp.set n (some ob)) a ↔ own φ hp a := by
  have hn := (List.getElem?_eq_some_iff.mp h0).1
  refine or_congr_left ?_
  constructor
  · rintro ⟨m, o, h1, h2⟩
    by_cases e : m = n
    · subst e; exact ⟨m, o0, h0, h2⟩
    · rw [List.getElem?_set_ne (Ne.symm e)] at h1; exact ⟨m, o, h1, h2⟩
  · rintro ⟨m, o, h1, h2⟩
    by_cases e : m = n
    · subst e; exact ⟨m, ob, by rw [List.getElem?_set_self hn], h2⟩
    · exact ⟨m, o, by rw [List.getElem?_set_ne (Ne.symm e)]; exact h1, h2⟩
theorem Ext.put {n : Nat} {u : HO} {ob o0 : Ob} (s : SR K H φ hp) (h0 : hp[n]? = some (some o0)) (h0k : isLk o0 = false := by rfl) (hk : isLk ob = false := by rfl) : Ext H φ hp (upd H (φ n) u) φ (hp.set n (some ob)) where
  len := by simp
  ph := fun _ _ => rfl
  kp := fun a o e no => by rw [upd_ne (fun z => no (.inl ⟨n, o0, h0, z.symm⟩))]; exact e
  th := fun a o e => by
    by_cases z : a = φ n
    · rw [z]; exact ⟨u, upd_same⟩
    · exact ⟨o, by rw [upd_ne z]; exact e⟩
  fr := fun a o => .inl ((own_set h0).mp o)
  zz := rfl
  nl := nl_set hk
  zk := fun a z _ => upd_ne fun e => s.zn n o0 h0 h0k (by rw [← e]; exact z)
theorem SR.put {n : Nat} {u : HO} {ob o0 : Ob} (s : SR K H φ hp) (h0 : hp[n]? = some (some o0)) (r : ObRep K (upd H (φ n) u) φ (hp.set n (some ob)) (φ n) ob) (h0k : isLk o0 = false := by rfl) (hk : isLk ob = false := by rfl) : SR K (upd H (φ n) u) φ (hp.set n (some ob)) := by
  have hn := (List.getElem?_eq_some_iff.mp h0).1
  have x : Ext H φ hp (upd H (φ n) u) φ (hp.set n (some ob)) := Ext.put s h0 h0k hk
  have g0 : ∀ i o, (hp.set n (some ob))[i]? = some (some o) → ∃ o, hp[i]? = some (some o) := fun i o h => by
      by_cases z : i = n
      · subst z; exact ⟨o0, h0⟩
      · rw [List.getElem?_set_ne (Ne.symm z)] at h; exact ⟨o, h⟩
  have hz : ∀ a, φ.Z a → upd H (φ n) u a = H a := fun a z => upd_ne fun e => s.zn n o0 h0 h0k (by rw [← e]; exact z)
  refine ⟨fun i j o o' h1 h2 e => ?_, fun m o e => ?_, fun m o e hk2 => ?_, fun a z => ?_, fun t ht => ?_⟩
  case refine_3 =>
    by_cases z : m = n
    · rw [z]; exact s.zn n o0 h0 h0k
    · rw [List.getElem?_set_ne (Ne.symm z)] at e
      exact s.zn m o e hk2
  case refine_4 => rw [hz a z]; exact s.zs a z
  case refine_5 =>
    obtain ⟨h1, h2⟩ := s.tb t ht
    exact ⟨h1, h2.mono x.toSub (hz _ h1)⟩
  · have g : ∀ i o, (hp.set n (some ob))[i]? = some (some o) → ∃ o, hp[i]? = some (some o) := fun i o h => by
      by_cases z : i = n
      · subst z; exact ⟨o0, h0⟩
      · rw [List.getElem?_set_ne (Ne.symm z)] at h; exact ⟨o, h⟩
    obtain ⟨_, g1⟩ := g i o h1
    obtain ⟨_, g2⟩ := g j o' h2
    exact s.inj i j _ _ g1 g2 e
  · by_cases z : m = n
    · subst z
      rw [List.getElem?_set_self hn] at e
      cases e
      exact r
    · rw [List.getElem?_set_ne (Ne.symm z)] at e
      have k : ∀ w, H (φ m) = some w → upd H (φ n) u (φ m) = some w := fun w q => by
        rw [upd_ne (fun y => z (s.inj m n o o0 e h0 y))]; exact q
      cases s.obs m o e with
      | lst q r => exact .lst (k _ q) (r.mono s x)
      | dic q r => exact .dic (k _ q) (r.mono s x)
      | dct q r => exact .dct (q.up k) (r.mono s x)
      | lkd q r => exact .lkd (q.up k) (r.mono s x)
      | ins q r => exact .ins (k _ q) (r.mono s x)
/-! ### what a datum is, boxes read -/
def look (hp : Hs) : D → D
  | .loc n => match hp[n]? with
    | some (some (.lst xs)) => .lst xs
    | some (some (.dic ks xs)) => .dic ks xs
    | _ => .loc n
  | d => d
@[simp] theorem look_non : look hp .non = .non := rfl
@[simp] theorem look_bl {b} : look hp (.bl b) = .bl b := rfl
@[simp] theorem look_int {b} : look hp (.int b) = .int b := rfl
@[simp] theorem look_str {b} : look hp (.str b) = .str b := rfl
@[simp] theorem look_tup {b} : look hp (.tup b) = .tup b := rfl
@[simp] theorem look_itm {b} : look hp (.itm b) = .itm b := rfl
@[simp] theorem look_lst {b} : look hp (.lst b) = .lst b := rfl
@[simp] theorem look_frz {b} : look hp (.frz b) = .frz b := rfl
@[simp] theorem look_dic {b c} : look hp (.dic b c) = .dic b c := rfl
@[simp] theorem look_dct {b c} : look hp (.dct b c) = .dct b c := rfl
@[simp] theorem look_ty {b} : look hp (.ty b) = .ty b := rfl
@[simp] theorem look_exc {b c} : look hp (.exc b c) = .exc b c := rfl
@[simp] theorem look_adr {b xs} : look hp (.adr b xs) = .adr b xs := rfl
theorem look_loc {n : Nat} {xs : List D} (h : hp[n]? = some (some (.lst xs))) : look hp (.loc n) = .lst xs := by simp [look, h]
theorem rep_int {i : Int} (s : SR K H φ hp) (r : Rep K H φ hp v d) (e : look hp d = .int i) : v = .int i := by
  cases d <;> simp only [look] at e <;> try (cases e; done)
  · cases e; cases r; rfl
  · split at e <;> cases e
theorem rep_bl {i : Bool} (s : SR K H φ hp) (r : Rep K H φ hp v d) (e : look hp d = .bl i) : v = .bl i := by
  cases d <;> simp only [look] at e <;> try (cases e; done)
  · cases e; cases r; rfl
  · split at e <;> cases e
theorem rep_str {i : Str} (s : SR K H φ hp) (r : Rep K H φ hp v d) (e : look hp d = .str i) : v = .str i := by
  cases d <;> simp only [look] at e <;> try (cases e; done)
  · cases e; cases r; rfl
  · split at e <;> cases e
theorem rep_non (s : SR K H φ hp) (r : Rep K H φ hp v d) (e : look hp d = .non) : v = .non := by
  cases d <;> simp only [look] at e <;> try (cases e; done)
  · cases r; rfl
  · split at e <;> cases e
theorem rep_itm {xs : List D} (s : SR K H φ hp) (r : Rep K H φ hp v d) (e : look hp d = .itm xs) : ∃ a vs, v = .ref a ∧ SqT K H a vs ∧ Reps K H φ hp vs xs := by
  cases d <;> simp only [look] at e <;> try (cases e; done)
  · cases e; cases r with | itm h r => exact ⟨_, _, rfl, h, r⟩
  · split at e <;> cases e
theorem rep_tup {xs : List D} (s : SR K H φ hp) (r : Rep K H φ hp v d) (e : look hp d = .tup xs) : ∃ a vs, v = .ref a ∧ SqD K H a vs ∧ Reps K H φ hp vs xs := by
  cases d <;> simp only [look] at e <;> try (cases e; done)
  · cases e; cases r with | tup h r => exact ⟨_, _, rfl, h, r⟩
  · split at e <;> cases e
theorem rep_lst {xs : List D} (s : SR K H φ hp) (r : Rep K H φ hp v d) (e : look hp d = .lst xs) : ∃ a vs, v = .ref a ∧ H a = some (.lst vs) ∧ Reps K H φ hp vs xs := by
  cases d <;> simp only [look] at e <;> try (cases e; done)
  · cases e; cases r with | lst h _ r => exact ⟨_, _, rfl, h, r⟩
  · rename_i n
    split at e <;> cases e
    rename_i h
    cases r
    cases s.obs n _ h with
    | lst e r => exact ⟨_, _, rfl, e, r⟩
theorem rep_frz {xs : List D} (s : SR K H φ hp) (r : Rep K H φ hp v d) (e : look hp d = .frz xs) : ∃ a vs, v = .ref a ∧ SqL K H a vs ∧ Reps K H φ hp vs xs := by
  cases d <;> simp only [look] at e <;> try (cases e; done)
  · cases e; cases r with | frz h r => exact ⟨_, _, rfl, h.sq, r⟩
  · split at e <;> cases e
theorem rep_dic {ks : List Key} {xs : List D} (s : SR K H φ hp) (r : Rep K H φ hp v d) (e : look hp d = .dic ks xs) : ∃ a kvs, v = .ref a ∧ H a = some (.dK kvs) ∧ kvs.map (·.1) = ks ∧ Reps K H φ hp (kvs.map (·.2)) xs := by
  cases d <;> simp only [look] at e <;> try (cases e; done)
  · cases e; cases r with | dic h _ r => exact ⟨_, _, rfl, h, rfl, r⟩
  · rename_i n
    split at e <;> cases e
    rename_i h
    cases r
    cases s.obs n _ h with
    | dic e r => exact ⟨_, _, rfl, e, rfl, r⟩
/-- a list or a tuple (or the script), its items -/
def seqv (hp : Hs) (d : D) : Option (List D) := match look hp d with
  | .lst xs => some xs | .tup xs => some xs | .frz xs => some xs | _ => none
@[simp] theorem seqv_tup {xs} : seqv hp (.tup xs) = some xs := rfl
@[simp] theorem seqv_lst {xs} : seqv hp (.lst xs) = some xs := rfl
@[simp] theorem seqv_frz {xs} : seqv hp (.frz xs) = some xs := rfl
theorem seqv_loc {n : Nat} {xs : List D} (h : hp[n]? = some (some (.lst xs))) : seqv hp (.loc n) = some xs := by simp [seqv, look, h]
end
end Mi
-- Mir3
set_option Elab.async false
set_option linter.all false
set_option maxRecDepth 100000
set_option maxHeartbeats 2000000
namespace Mi
open PySem L2
/-! ### the mirror's words -/
def bnd {α β : Type} (m : M α) (f : α → M β) : M β := fun env hp => match m env hp with
  | some (.ok a, hp1) => f a env hp1
  | some (.ex c d, hp1) => some (.ex c d, hp1)
  | none => none
def lft {α : Type} (f : Hs → Option α) : M α := fun _ hp => match f hp with
  | some a => some (.ok a, hp)
  | none => none
def mVar (i : Nat) : M D := fun env hp => match env[i]? with
  | some (some d) => some (.ok d, hp)
  | _ => none
def mC {α : Type} (d : α) : M α := fun _ hp => some (.ok d, hp)
def mOp (g : Hs → D → D → Option D) (a b : M D) : M D := bnd a fun x => bnd b fun y => lft fun hp => g hp x y
def mUn (g : Hs → D → Option D) (a : M D) : M D := bnd a fun x => lft fun hp => g hp x
def mNil : M (List D) := mC []
def mCons (a : M D) (r : M (List D)) : M (List D) := bnd a fun x => bnd r fun xs => mC (x :: xs)
def mTup (as : M (List D)) : M D := bnd as fun xs => lft fun _ => if xs.length ≤ sizeLine then some (.tup xs) else none
/-- a new list, its items -/
def mLst (as : M (List D)) : M (List D) := bnd as fun xs => lft fun _ => if xs.length ≤ sizeLine then some xs else none
/-- a new list that will not change -/
def mNew (m : M (List D)) : M D := bnd m fun xs => mC (.lst xs)
/-- a new list in a box -/
def mBox (m : M (List D)) : M D := fun env hp => match m env hp with
  | some (.ok xs, hp1) => some (.ok (.loc hp1.length), hp1 ++ [some (.lst xs)])
  | some (.ex c d, hp1) => some (.ex c d, hp1)
  | none => none
def mCall (n : Nat) (g : List D → Hs → Option (Out D × Hs)) (as : M (List D)) : M D := bnd as fun xs => fun _ hp => if xs.length = n then g xs hp else none
def mIf {α : Type} (c : M Bool) (a b : M α) : M α := bnd c fun k => if k = true then a else b
/-- a value that is a bool, as a test -/
def mTst (a : M D) : M Bool := bnd a fun x => match x with
  | .bl b => mC b
  | _ => fun _ _ => none
def mAnd (a b : M Bool) : M Bool := bnd a fun k => if k = true then b else mC false
def mOr (a b : M Bool) : M Bool := bnd a fun k => if k = true then mC true else b
def mNot (a : M Bool) : M Bool := bnd a fun k => mC (!k)
section
variable {X : Cx} {W : WX} {K : PySem.W.Frag} {H H' H1 H2 : Hp} {φ φ' φ1 φ2 : Ph} {hp hp' hp1 hp2 : Hs} {v : V} {d : D} {vs : List V} {ds : List D} {p : Addr} {σ : L2.St} {env : Env} {Q : VK}
variable {a b c e : Expr} {es : List Expr} {ma mb mc : M D} {pos : Pos}
/-! ### the step from one to the next -/
theorem bnd_ok {α β : Type} {m : M α} {f : α → M β} {o : Out β} (h : bnd m f env hp = some (o, hp')) :
    (∃ x hp1, m env hp = some (.ok x, hp1) ∧ f x env hp1 = some (o, hp')) ∨ (∃ c d, m env hp = some (.ex c d, hp') ∧ o = .ex c d) := by
  unfold bnd at h
  split at h
  · rename_i x hp1 e; exact .inl ⟨x, hp1, e, h⟩
  · rename_i c d hp1 e
    cases h
    exact .inr ⟨c, d, e, rfl⟩
  · cases h
/-- .. for any kind of end -/
theorem te_stepG {α : Type} {ta : TE} {m : M D} {f : D → M α} {o : Out α} (ok : TEok X W ta m) (s : SR X.K H φ hp) (l : Sls X.K H φ hp σ env) (h : bnd m f env hp = some (o, hp')) {R : VK}
    (F : ∀ c d, o = .ex c d → ∀ H' φ', Ext H φ hp H' φ' hp' → SR X.K H' φ' hp' → ∀ cls da, XRep X.K X.mg H' φ' hp' c d cls da → W cls da σ H')
    (k : ∀ x hp1 H1 φ1 v, f x env hp1 = some (o, hp') → SR X.K H1 φ1 hp1 → Sls X.K H1 φ1 hp1 σ env → Rep X.K H1 φ1 hp1 v x → Ext H φ hp H1 φ1 hp1 → R v H1) : ta σ H R := by
  rcases bnd_ok h with ⟨x, hp1, e1, e2⟩ | ⟨c, d, e1, rfl⟩
  · exact ok σ H φ env hp _ _ s l e1 R fun H1 φ1 y s1 v r => k x hp1 H1 φ1 v e2 s1 (l.mono s y) r y
  · exact ok σ H φ env hp _ _ s l e1 R fun H1 φ1 y s1 => F c d rfl H1 φ1 y s1
theorem tt_stepG {α : Type} {t : TT} {m : M Bool} {f : Bool → M α} {o : Out α} (ok : TTok X W t m) (s : SR X.K H φ hp) (l : Sls X.K H φ hp σ env) (h : bnd m f env hp = some (o, hp')) {R : Bool → Hp → Prop}
    (F : ∀ c d, o = .ex c d → ∀ H' φ', Ext H φ hp H' φ' hp' → SR X.K H' φ' hp' → ∀ cls da, XRep X.K X.mg H' φ' hp' c d cls da → W cls da σ H')
    (k : ∀ x hp1 H1 φ1, f x env hp1 = some (o, hp') → SR X.K H1 φ1 hp1 → Sls X.K H1 φ1 hp1 σ env → Ext H φ hp H1 φ1 hp1 → R x H1) : t σ H R := by
  rcases bnd_ok h with ⟨x, hp1, e1, e2⟩ | ⟨c, d, e1, rfl⟩
  · exact ok σ H φ env hp _ _ s l e1 R fun H1 φ1 y s1 => k x hp1 H1 φ1 e2 s1 (l.mono s y) y
  · exact ok σ H φ env hp _ _ s l e1 R fun H1 φ1 y s1 => F c d rfl H1 φ1 y s1
theorem ta_stepG {α : Type} {t : TA} {m : M (List D)} {f : List D → M α} {o : Out α} (ok : TAok X W t m) (s : SR X.K H φ hp) (l : Sls X.K H φ hp σ env) (h : bnd m f env hp = some (o, hp')) {R : List V → Hp → Prop}
    (F : ∀ c d, o = .ex c d → ∀ H' φ', Ext H φ hp H' φ' hp' → SR X.K H' φ' hp' → ∀ cls da, XRep X.K X.mg H' φ' hp' c d cls da → W cls da σ H')
    (k : ∀ xs hp1 H1 φ1 vs, f xs env hp1 = some (o, hp') → SR X.K H1 φ1 hp1 → Sls X.K H1 φ1 hp1 σ env → Reps X.K H1 φ1 hp1 vs xs → Ext H φ hp H1 φ1 hp1 → R vs H1) : t σ H R := by
  rcases bnd_ok h with ⟨x, hp1, e1, e2⟩ | ⟨c, d, e1, rfl⟩
  · exact ok σ H φ env hp _ _ s l e1 R fun H1 φ1 y s1 vs r => k x hp1 H1 φ1 vs e2 s1 (l.mono s y) r y
  · exact ok σ H φ env hp _ _ s l e1 R fun H1 φ1 y s1 => F c d rfl H1 φ1 y s1
theorem FinE.exc {o : Out D} (F : FinE X W σ H φ hp o hp' Q) : ∀ c d, o = .ex c d → ∀ H' φ', Ext H φ hp H' φ' hp' → SR X.K H' φ' hp' → ∀ cls da, XRep X.K X.mg H' φ' hp' c d cls da → W cls da σ H' := by
  rintro c d rfl H' φ' x s; exact F H' φ' x s
theorem FinT.exc {o : Out Bool} {Q : Bool → Hp → Prop} (F : FinT X W σ H φ hp o hp' Q) : ∀ c d, o = .ex c d → ∀ H' φ', Ext H φ hp H' φ' hp' → SR X.K H' φ' hp' → ∀ cls da, XRep X.K X.mg H' φ' hp' c d cls da → W cls da σ H' := by
  rintro c d rfl H' φ' x s; exact F H' φ' x s
theorem FinA.exc {o : Out (List D)} {Q : List V → Hp → Prop} (F : FinA X W σ H φ hp o hp' Q) : ∀ c d, o = .ex c d → ∀ H' φ', Ext H φ hp H' φ' hp' → SR X.K H' φ' hp' → ∀ cls da, XRep X.K X.mg H' φ' hp' c d cls da → W cls da σ H' := by
  rintro c d rfl H' φ' x s; exact F H' φ' x s
theorem FinN.exc {o : Out (List D)} (F : FinN X W σ H φ hp o hp' Q) : ∀ c d, o = .ex c d → ∀ H' φ', Ext H φ hp H' φ' hp' → SR X.K H' φ' hp' → ∀ cls da, XRep X.K X.mg H' φ' hp' c d cls da → W cls da σ H' := by
  rintro c d rfl H' φ' x s; exact F H' φ' x s
theorem FinE.on {o : Out D} (F : FinE X W σ H φ hp o hp' Q) (y : Ext H φ hp H1 φ1 hp1) : FinE X W σ H1 φ1 hp1 o hp' Q := fun H' φ' z s' => F H' φ' (y.trans z) s'
theorem FinT.on {o : Out Bool} {Q : Bool → Hp → Prop} (F : FinT X W σ H φ hp o hp' Q) (y : Ext H φ hp H1 φ1 hp1) : FinT X W σ H1 φ1 hp1 o hp' Q := fun H' φ' z s' => F H' φ' (y.trans z) s'
theorem FinA.on {o : Out (List D)} {Q : List V → Hp → Prop} (F : FinA X W σ H φ hp o hp' Q) (y : Ext H φ hp H1 φ1 hp1) : FinA X W σ H1 φ1 hp1 o hp' Q := fun H' φ' z s' => F H' φ' (y.trans z) s'
theorem FinN.on {o : Out (List D)} (F : FinN X W σ H φ hp o hp' Q) (y : Ext H φ hp H1 φ1 hp1) : FinN X W σ H1 φ1 hp1 o hp' Q := fun H' φ' z s' => F H' φ' (y.trans z) s'
theorem lft_ok {α : Type} {f : Hs → Option α} {o : Out α} (h : lft f env hp = some (o, hp')) : ∃ x, f hp = some x ∧ o = .ok x ∧ hp' = hp := by
  unfold lft at h
  split at h
  · rename_i x e; cases h; exact ⟨x, e, rfl, rfl⟩
  · cases h
/-! ### new objects -/
theorem new_itm {xs : List D} (s : SR K H φ hp) (r : Reps K H φ hp vs xs) (h : H p = none) : Ext H φ hp (upd H p (.tup vs)) φ hp ∧ SR K (upd H p (.tup vs)) φ hp ∧ Rep K (upd H p (.tup vs)) φ hp (.ref p) (.itm xs) :=
  ⟨Ext.new s h, s.new h, .itm (SqT.of upd_same) (r.mono s (Ext.new s h))⟩
theorem new_tup {xs : List D} {ob : Obj} (s : SR K H φ hp) (r : Reps K H φ hp vs xs) (h : H p = none) (hb : PlT ob) : Ext H φ hp (upd H p (.frz ob (.tup vs))) φ hp ∧ SR K (upd H p (.frz ob (.tup vs))) φ hp ∧ Rep K (upd H p (.frz ob (.tup vs))) φ hp (.ref p) (.tup xs) :=
  ⟨Ext.new s h, s.new h, .tup (.inl ⟨ob, upd_same, hb⟩) (r.mono s (Ext.new s h))⟩
theorem new_lst {xs : List D} (s : SR K H φ hp) (r : Reps K H φ hp vs xs) (h : H p = none) : Ext H φ hp (upd H p (.lst vs)) φ hp ∧ SR K (upd H p (.lst vs)) φ hp ∧ Rep K (upd H p (.lst vs)) φ hp (.ref p) (.lst xs) :=
  ⟨Ext.new s h, s.new h, .lst upd_same (s.fresh h) (r.mono s (Ext.new s h))⟩
/-! ### names, constants -/
theorem de_var (i : Nat) {x : Str} (hN : X.N[i]? = some x := by rfl) (hv : Vis X.env.scope x := by first | exact Or.inl rfl | exact Or.inr (Or.inl rfl) | exact Or.inr (Or.inr rfl)) (hd : (x == ("__debug__" : Str)) = false := by decide)
    (hcd : (x == ("__classdict__" : Str)) = false := by decide) : DE X W (.Name x pos) (mVar i) := by
  refine ⟨_, pe_var hN hv hd hcd, fun σ H φ env hp o hp' s l h Q F => ?_⟩
  unfold mVar at h
  split at h
  · rename_i d e
    cases h
    obtain ⟨v, e2, r⟩ := l.2 i d e
    exact ⟨v, e2, F H φ Ext.refl s v r⟩
  · cases h
theorem te_c {v : V} {d : D} (r : ∀ K H φ hp, Rep K H φ hp v d) : TEok X W (tC v) (mC d) := fun σ H φ env hp o hp' s l h Q F => by
  cases h
  exact F H φ Ext.refl s v (r _ _ _ _)
theorem de_int {i j} : DE X W (.Constant (.int i) j pos) (mC (.int i)) := ⟨_, pe_int, te_c fun _ _ _ _ => .int i⟩
theorem de_bl {i j} : DE X W (.Constant (.bool i) j pos) (mC (.bl i)) := ⟨_, pe_bl, te_c fun _ _ _ _ => .bl i⟩
theorem de_non {j} : DE X W (.Constant .none j pos) (mC .non) := ⟨_, pe_non, te_c fun _ _ _ _ => .non⟩
/-! ### operators -/
def OpS (X : Cx) (r : R2) (g : Hs → D → D → Option D) : Prop := ∀ H φ hp x y d1 d2 d, SR X.K H φ hp → Rep X.K H φ hp x d1 → Rep X.K H φ hp y d2 → g hp d1 d2 = some d → ∀ Q : VK,
  (∀ H', Ext H φ hp H' φ hp → SR X.K H' φ hp → ∀ v, Rep X.K H' φ hp v d → Q v H') → r x y H Q
theorem te_op {r : R2} {g : Hs → D → D → Option D} {ta tb : TE} (hs : OpS X r g) (ha : TEok X W ta ma) (hb : TEok X W tb mb) : TEok X W (tOp r ta tb) (mOp g ma mb) := fun σ H φ env hp o hp' s l h Q F => by
  refine te_stepG ha s l h F.exc fun x hp1 H1 φ1 v h1 s1 l1 r1 y1 => ?_
  refine te_stepG hb s1 l1 h1 (F.on y1).exc fun x2 hp2 H2 φ2 v2 h2 s2 l2 r2 y2 => ?_
  obtain ⟨d, e, rfl, rfl⟩ := lft_ok h2
  exact hs H2 φ2 _ v v2 x x2 d s2 (r1.mono s1 y2) r2 e Q fun H' y3 s3 v r => F H' φ2 ((y1.trans y2).trans y3) s3 v r
theorem de_op {op : Operator} {r : R2} {g : Hs → D → D → Option D} (ho : OpR X (binaryOp op) r) (hs : OpS X r g) (ha : DE X W a ma) (hb : DE X W b mb) : DE X W (.BinOp a op b pos) (mOp g ma mb) := by
  obtain ⟨ta, pa, ka⟩ := ha
  obtain ⟨tb, pb, kb⟩ := hb
  exact ⟨_, pe_op ho pa pb, te_op hs ka kb⟩
theorem de_cmp {op : CmpOp} {r : R2} {g : Hs → D → D → Option D} (ho : OpR X (compareOp op) r) (hs : OpS X r g) (ha : DE X W a ma) (hb : DE X W b mb) (hm : behindInMarks op b = false := by first | exact nomark _ | with_unfolding_all rfl) : DE X W (.Compare a [op] [b] pos) (mOp g ma mb) := by
  obtain ⟨ta, pa, ka⟩ := ha
  obtain ⟨tb, pb, kb⟩ := hb
  exact ⟨_, pe_cmpR ho pa pb hm, te_op hs ka kb⟩
/-- a value's reading that gives a bool, as a test -/
theorem tt_of {t : TE} {m : M D} (h : TEok X W t m) : TTok X W (tTest t) (mTst m) := fun σ H φ env hp o hp' s l h1 Q F => by
  refine te_stepG h s l h1 F.exc fun x hp1 H1 φ1 v h1 s1 l1 r1 y1 => ?_
  cases x <;> first | (cases h1; done) | skip
  cases h1
  cases r1
  exact ⟨_, rfl, F H1 φ1 y1 s1⟩
theorem dt_cmp {op : CmpOp} {r : R2} {g : Hs → D → D → Option D} (ho : OpR X (compareOp op) r) (hs : OpS X r g) (ha : DE X W a ma) (hb : DE X W b mb) (hm : behindInMarks op b = false := by first | exact nomark _ | with_unfolding_all rfl) : DT X W (.Compare a [op] [b] pos) (mTst (mOp g ma mb)) := by
  obtain ⟨ta, pa, ka⟩ := ha
  obtain ⟨tb, pb, kb⟩ := hb
  exact ⟨_, pt_cmpR ho pa pb hm, tt_of (te_op hs ka kb)⟩
/-- a < b < c -/
def mChain (g g' : Hs → D → D → Option D) (a b c : M D) : M D := bnd a fun x => bnd b fun y => bnd (lft fun hp => g hp x y) fun z => match z with
  | .bl true => bnd c fun w => lft fun hp => g' hp y w
  | .bl false => mC (.bl false)
  | _ => fun _ _ => none
/-- any expression that gives a bool, as a test -/
theorem dt_val (ha : DE X W e ma) (he : ∀ whole, isTrue e X.env whole = (do let v ← whole; standAt e.pos; holding [v] (truthy v)) := by intro _; rfl) : DT X W e (mTst ma) := by
  obtain ⟨ta, pa, ka⟩ := ha
  exact ⟨_, pt_val pa he, tt_of ka⟩
/-! ### and, or, not, if -/
section
variable {ca cb : M Bool} {rest : List Expr}
theorem tt_or {t u : TT} (h1 : TTok X W t ca) (h2 : TTok X W u cb) : TTok X W (tOr t u) (mOr ca cb) := fun σ H φ env hp o hp' s l h Q F => by
  refine tt_stepG h1 s l h F.exc fun k hp1 H1 φ1 h1 s1 l1 y1 => ?_
  cases k with
  | false => exact iteF (h2 σ H1 φ1 env hp1 _ _ s1 l1 h1 Q (F.on y1))
  | true => cases h1; exact iteT (F H1 φ1 y1 s1)
theorem dw_or1 (ha : DT X W a ca) : DW X W (.BoolOp .Or [a] pos) ca := let ⟨t, p, k⟩ := ha; ⟨t, pw_or1 p, k⟩
theorem dw_or (ha : DT X W a ca) (hb : DW X W (.BoolOp .Or (b :: rest) pos) cb) : DW X W (.BoolOp .Or (a :: b :: rest) pos) (mOr ca cb) := let ⟨_, p, k⟩ := ha; let ⟨_, q, j⟩ := hb; ⟨_, pw_or p q, tt_or k j⟩
theorem dt_w (h : DW X W e ca) : DT X W e ca := let ⟨t, p, k⟩ := h; ⟨t, p.pt, k⟩
/-- .. as values -/
def mAndV (a b : M D) : M D := bnd a fun x => match x with
  | .bl true => b
  | .bl false => mC (.bl false)
  | _ => fun _ _ => none
def mOrV (a b : M D) : M D := bnd a fun x => match x with
  | .bl false => b
  | .bl true => mC (.bl true)
  | _ => fun _ _ => none
def mNotV (a : M D) : M D := bnd a fun x => match x with
  | .bl k => mC (.bl (!k))
  | _ => fun _ _ => none
theorem de_ifExp (hc : DT X W c ca) (ha : DE X W a ma) (hb : DE X W b mb) : DE X W (.IfExp c a b pos) (mIf ca ma mb) := by
  obtain ⟨_, p, k⟩ := hc
  obtain ⟨_, q, j⟩ := ha
  obtain ⟨_, q2, j2⟩ := hb
  refine ⟨_, pe_ifExp p q q2, fun σ H φ env hp o hp' s l h Q F => ?_⟩
  refine tt_stepG k s l h F.exc fun x hp1 H1 φ1 h1 s1 l1 y1 => ?_
  cases x with
  | true => exact iteT (j σ H1 φ1 env hp1 _ _ s1 l1 h1 Q (F.on y1))
  | false => exact iteF (j2 σ H1 φ1 env hp1 _ _ s1 l1 h1 Q (F.on y1))
end
/-! ### arguments, displays, calls of builtins -/
variable {mas : M (List D)}
theorem da_nil : DA X W [] mNil := ⟨_, pa_nil, fun σ H φ env hp o hp' s l h Q F => by cases h; exact F H φ Ext.refl s _ .nil⟩
theorem da_cons (ha : DE X W e ma) (hr : DA X W es mas) (hs : starEach (e :: es) X.env = (false, eval e X.env) :: starEach es X.env := by rfl) : DA X W (e :: es) (mCons ma mas) := by
  obtain ⟨_, p, k⟩ := ha
  obtain ⟨_, q, j⟩ := hr
  refine ⟨_, pa_cons p q hs, fun σ H φ env hp o hp' s l h Q F => ?_⟩
  refine te_stepG k s l h F.exc fun x hp1 H1 φ1 v h1 s1 l1 r1 y1 => ?_
  refine ta_stepG j s1 l1 h1 (F.on y1).exc fun xs hp2 H2 φ2 vs h2 s2 l2 r2 y2 => ?_
  cases h2
  exact F H2 φ2 (y1.trans y2) s2 _ (.cons (r1.mono s1 y2) r2)
theorem de_tup {x1} (h : DA X W es mas) : DE X W (.Tuple es x1 pos) (mTup mas) := by
  obtain ⟨_, p, k⟩ := h
  refine ⟨_, pe_tupD p, fun σ H φ env hp o hp' s l h Q F => ?_⟩
  refine ta_stepG k s l h F.exc fun xs hp1 H1 φ1 vs h1 s1 l1 r1 y1 => ?_
  obtain ⟨x, e, rfl, rfl⟩ := lft_ok h1
  split at e <;> cases e
  rename_i hl
  refine ⟨by rw [r1.length]; exact hl, fun p ob hp hb => ?_⟩
  obtain ⟨y2, s2, r2⟩ := new_tup s1 r1 hp hb
  exact F _ φ1 (y1.trans y2) s2 _ r2
theorem dn_lst (h : DA X W es mas) : DN X W (.List es pos) (mLst mas) := by
  obtain ⟨_, p, k⟩ := h
  refine ⟨_, pe_lst p, fun σ H φ env hp o hp' s l h Q F => ?_⟩
  refine ta_stepG k s l h F.exc fun xs hp1 H1 φ1 vs h1 s1 l1 r1 y1 => ?_
  obtain ⟨x, e, rfl, rfl⟩ := lft_ok h1
  split at e <;> cases e
  rename_i hl
  exact ⟨by rw [r1.length]; exact hl, fun p hp => F H1 φ1 y1 s1 p vs hp r1⟩
/-- a new list as data -/
theorem de_new (h : DN X W e mas) : DE X W e (mNew mas) := by
  obtain ⟨_, p, k⟩ := h
  refine ⟨_, p, fun σ H φ env hp o hp' s l h Q F => ?_⟩
  rcases bnd_ok h with ⟨xs, hp1, e1, e2⟩ | ⟨c, d, e1, rfl⟩
  · cases e2
    refine k σ H φ env hp _ _ s l e1 Q fun H1 φ1 y1 s1 p vs hp r => ?_
    obtain ⟨y2, s2, r2⟩ := new_lst s1 r hp
    exact F _ φ1 (y1.trans y2) s2 _ r2
  · exact k σ H φ env hp _ _ s l e1 Q fun H1 φ1 y1 s1 => F H1 φ1 y1 s1
/-- .. in a box -/
theorem de_box (h : DN X W e mas) : DE X W e (mBox mas) := by
  obtain ⟨_, p, k⟩ := h
  refine ⟨_, p, fun σ H φ env hp o hp' s l h Q F => ?_⟩
  unfold mBox at h
  split at h
  · rename_i xs hp1 e1
    cases h
    refine k σ H φ env hp _ _ s l e1 Q fun H1 φ1 y1 s1 p vs hp r => ?_
    have y2 : Ext H1 φ1 hp1 (upd H1 p (.lst vs)) (bx φ1 hp1.length p) (hp1 ++ [some (.lst xs)]) := Ext.box s1 hp
    have s2 : SR X.K (upd H1 p (.lst vs)) (bx φ1 hp1.length p) (hp1 ++ [some (.lst xs)]) := s1.box hp (.lst upd_same (r.mono s1 y2))
    refine F _ _ (y1.trans y2) s2 _ ?_
    have e : V.ref p = V.ref (bx φ1 hp1.length p hp1.length) := by rw [bx_same]
    rw [e]
    exact .loc (by simp)
  · rename_i c d hp1 e1
    cases h
    exact k σ H φ env hp _ _ s l e1 Q fun H1 φ1 y1 s1 => F H1 φ1 y1 s1
  · cases h
/-- a builtin's call by values -/
def CallS (X : Cx) (r : List V → Hp → VK → Prop) (g : Hs → List D → Option D) : Prop := ∀ H φ hp vs ds d, SR X.K H φ hp → Reps X.K H φ hp vs ds → g hp ds = some d → ∀ Q : VK,
  (∀ H', Ext H φ hp H' φ hp → SR X.K H' φ hp → ∀ v, Rep X.K H' φ hp v d → Q v H') → r vs H Q
def mCB (g : Hs → List D → Option D) (as : M (List D)) : M D := bnd as fun xs => lft fun hp => g hp xs
theorem te_cb {r : List V → Hp → VK → Prop} {g : Hs → List D → Option D} {t : TA} (hs : CallS X r g) (k : TAok X W t mas) : TEok X W (tCB r t) (mCB g mas) := fun σ H φ env hp o hp' s l h Q F => by
  refine ta_stepG k s l h F.exc fun xs hp1 H1 φ1 vs h1 s1 l1 r1 y1 => ?_
  obtain ⟨x, e, rfl, rfl⟩ := lft_ok h1
  exact hs H1 φ1 hp' vs xs x s1 r1 e Q fun H' y3 s3 v r => F H' φ1 (y1.trans y3) s3 v r
/-- .. that makes a new list -/
def CallN (X : Cx) (r : List V → Hp → VK → Prop) (g : Hs → List D → Option (List D)) : Prop := ∀ H φ hp vs ds xs, SR X.K H φ hp → Reps X.K H φ hp vs ds → g hp ds = some xs → ∀ Q : VK,
  (∀ H', Ext H φ hp H' φ hp → SR X.K H' φ hp → ∀ p us, H' p = none → Reps X.K H' φ hp us xs → Q (.ref p) (upd H' p (.lst us))) → r vs H Q
def mCBN (g : Hs → List D → Option (List D)) (as : M (List D)) : M (List D) := bnd as fun xs => lft fun hp => g hp xs
theorem tn_cb {r : List V → Hp → VK → Prop} {g : Hs → List D → Option (List D)} {t : TA} (hs : CallN X r g) (k : TAok X W t mas) : TNok X W (tCB r t) (mCBN g mas) := fun σ H φ env hp o hp' s l h Q F => by
  refine ta_stepG k s l h F.exc fun xs hp1 H1 φ1 vs h1 s1 l1 r1 y1 => ?_
  obtain ⟨x, e, rfl, rfl⟩ := lft_ok h1
  exact hs H1 φ1 hp' vs xs x s1 r1 e Q fun H' y3 s3 p us h r => F H' φ1 (y1.trans y3) s3 p us h r
theorem de_cb {id : String} {x : Str} {r : List V → Hp → VK → Prop} {g : Hs → List D → Option D} {q : Pos} (hc : CallR X (.builtin id) r) (hs : CallS X r g) (hg : Gl X x) (hm : X.mg x = none) (hv : bootBuiltins x = some (.builtin id)) (ha : DA X W (e :: es) mas)
    (hn : x ≠ "__name__" := by decide) (hdb : (x == ("__debug__" : Str)) = false := by decide) (he : starEach (e :: es) X.env = (false, eval e X.env) :: starEach es X.env := by rfl) (hpl : (backTo pos (starEach es X.env)).any (·.1) = false := by rfl) :
    DE X W (.Call (.Name x q) (e :: es) [] pos) (mCB g mas) := by
  obtain ⟨_, p, k⟩ := ha
  exact ⟨_, pe_callB hc hg hm hv p hn hdb he hpl, te_cb hs k⟩
theorem de_cty {T : String} {x : Str} {r : List V → Hp → VK → Prop} {g : Hs → List D → Option D} {q : Pos} (hc : CallR X (.type T) r) (hs : CallS X r g) (hg : Gl X x) (hm : X.mg x = none) (hv : bootBuiltins x = some (.type T)) (ha : DA X W (e :: es) mas)
    (hn : x ≠ "__name__" := by decide) (hdb : (x == ("__debug__" : Str)) = false := by decide) (he : starEach (e :: es) X.env = (false, eval e X.env) :: starEach es X.env := by rfl) (hpl : (backTo pos (starEach es X.env)).any (·.1) = false := by rfl) :
    DE X W (.Call (.Name x q) (e :: es) [] pos) (mCB g mas) := by
  obtain ⟨_, p, k⟩ := ha
  exact ⟨_, pe_callTy hc hg hm hv p hn hdb he hpl, te_cb hs k⟩
theorem dn_cb {id : String} {x : Str} {r : List V → Hp → VK → Prop} {g : Hs → List D → Option (List D)} {q : Pos} (hc : CallR X (.builtin id) r) (hs : CallN X r g) (hg : Gl X x) (hm : X.mg x = none) (hv : bootBuiltins x = some (.builtin id)) (ha : DA X W (e :: es) mas)
    (hn : x ≠ "__name__" := by decide) (hdb : (x == ("__debug__" : Str)) = false := by decide) (he : starEach (e :: es) X.env = (false, eval e X.env) :: starEach es X.env := by rfl) (hpl : (backTo pos (starEach es X.env)).any (·.1) = false := by rfl) :
    DN X W (.Call (.Name x q) (e :: es) [] pos) (mCBN g mas) := by
  obtain ⟨_, p, k⟩ := ha
  exact ⟨_, pe_callB hc hg hm hv p hn hdb he hpl, tn_cb hs k⟩
theorem dn_cty {T : String} {x : Str} {r : List V → Hp → VK → Prop} {g : Hs → List D → Option (List D)} {q : Pos} (hc : CallR X (.type T) r) (hs : CallN X r g) (hg : Gl X x) (hm : X.mg x = none) (hv : bootBuiltins x = some (.type T)) (ha : DA X W (e :: es) mas)
    (hn : x ≠ "__name__" := by decide) (hdb : (x == ("__debug__" : Str)) = false := by decide) (he : starEach (e :: es) X.env = (false, eval e X.env) :: starEach es X.env := by rfl) (hpl : (backTo pos (starEach es X.env)).any (·.1) = false := by rfl) :
    DN X W (.Call (.Name x q) (e :: es) [] pos) (mCBN g mas) := by
  obtain ⟨_, p, k⟩ := ha
  exact ⟨_, pe_callTy hc hg hm hv p hn hdb he hpl, tn_cb hs k⟩
/-! ### subscripts, slices -/
theorem de_ix {r : R2} {g : Hs → D → D → Option D} (hr : IxR X r) (hs : OpS X r g) (ha : DE X W a ma) (hb : DE X W b mb) (hp : PlainIx b := by exact fun _ _ => rfl) : DE X W (.Subscript a b pos) (mOp g ma mb) := by
  obtain ⟨ta, pa, ka⟩ := ha
  obtain ⟨tb, pb, kb⟩ := hb
  exact ⟨_, pe_ix hr pa pb hp, te_op hs ka kb⟩
def DO (X : Cx) (W : WX) (e : Option Expr) (m : M (Option Int)) : Prop := ∃ t, PO X e t ∧ ∀ σ H φ env hp o hp', SR X.K H φ hp → Sls X.K H φ hp σ env → m env hp = some (o, hp') → ∀ Q : Option Int → Hp → Prop,
  (∀ H' φ', Ext H φ hp H' φ' hp' → SR X.K H' φ' hp' → match o with
    | .ok b => Q b H'
    | .ex c d => ∀ cls da, XRep X.K X.mg H' φ' hp' c d cls da → W cls da σ H') → t σ H Q
def mPart (a : M D) : M (Option Int) := bnd a fun x => match x with
  | .int i => mC (some i)
  | _ => fun _ _ => none
theorem do_none : DO X W none (mC none) := ⟨_, po_none, fun σ H φ env hp o hp' s l h Q F => by cases h; exact F H φ Ext.refl s⟩
theorem do_some (ha : DE X W e ma) : DO X W (some e) (mPart ma) := by
  obtain ⟨_, p, k⟩ := ha
  refine ⟨_, po_some p, fun σ H φ env hp o hp' s l h Q F => ?_⟩
  refine te_stepG k s l h (fun c d e => by subst e; exact fun H' φ' x s => F H' φ' x s) fun x hp1 H1 φ1 v h1 s1 l1 r1 y1 => ?_
  cases x <;> first | (cases h1; done) | skip
  cases h1
  cases r1
  exact ⟨_, rfl, F H1 φ1 y1 s1⟩
/-- a slice's meaning by values -/
def SlS (X : Cx) (r : V → Option Int → Option Int → Hp → VK → Prop) (g : Hs → D → Option Int → Option Int → Option D) : Prop := ∀ H φ hp x d1 lo hi d, SR X.K H φ hp → Rep X.K H φ hp x d1 → g hp d1 lo hi = some d → ∀ Q : VK,
  (∀ H', Ext H φ hp H' φ hp → SR X.K H' φ hp → ∀ v, Rep X.K H' φ hp v d → Q v H') → r x lo hi H Q
def mSl (g : Hs → D → Option Int → Option Int → Option D) (a : M D) (lo hi : M (Option Int)) : M D := bnd a fun x => bnd lo fun l => bnd hi fun u => lft fun hp => g hp x l u
theorem do_step {α : Type} {t : TO} {m : M (Option Int)} {f : Option Int → M α} {o : Out α} (ok : ∀ σ H φ env hp o hp', SR X.K H φ hp → Sls X.K H φ hp σ env → m env hp = some (o, hp') → ∀ Q : Option Int → Hp → Prop,
    (∀ H' φ', Ext H φ hp H' φ' hp' → SR X.K H' φ' hp' → match o with
      | .ok b => Q b H'
      | .ex c d => ∀ cls da, XRep X.K X.mg H' φ' hp' c d cls da → W cls da σ H') → t σ H Q) (s : SR X.K H φ hp) (l : Sls X.K H φ hp σ env) (h : bnd m f env hp = some (o, hp')) {R : Option Int → Hp → Prop}
    (F : ∀ c d, o = .ex c d → ∀ H' φ', Ext H φ hp H' φ' hp' → SR X.K H' φ' hp' → ∀ cls da, XRep X.K X.mg H' φ' hp' c d cls da → W cls da σ H')
    (k : ∀ x hp1 H1 φ1, f x env hp1 = some (o, hp') → SR X.K H1 φ1 hp1 → Sls X.K H1 φ1 hp1 σ env → Ext H φ hp H1 φ1 hp1 → R x H1) : t σ H R := by
  rcases bnd_ok h with ⟨x, hp1, e1, e2⟩ | ⟨c, d, e1, rfl⟩
  · exact ok σ H φ env hp _ _ s l e1 R fun H1 φ1 y s1 => k x hp1 H1 φ1 e2 s1 (l.mono s y) y
  · exact ok σ H φ env hp _ _ s l e1 R fun H1 φ1 y s1 => F c d rfl H1 φ1 y s1
theorem de_slice {r : V → Option Int → Option Int → Hp → VK → Prop} {g : Hs → D → Option Int → Option Int → Option D} {lo hi : Option Expr} {ml mh : M (Option Int)} {p2 : Pos} (hr : SlR X r) (hs : SlS X r g) (ha : DE X W a ma) (hl : DO X W lo ml) (hh : DO X W hi mh) :
    DE X W (.Subscript a (.Slice lo hi none p2) pos) (mSl g ma ml mh) := by
  obtain ⟨_, pa, ka⟩ := ha
  obtain ⟨_, pl, kl⟩ := hl
  obtain ⟨_, ph, kh⟩ := hh
  refine ⟨_, pe_slice hr pa pl ph, fun σ H φ env hp o hp' s l h Q F => ?_⟩
  refine te_stepG ka s l h F.exc fun x hp1 H1 φ1 v h1 s1 l1 r1 y1 => ?_
  refine do_step kl s1 l1 h1 (F.on y1).exc fun x2 hp2 H2 φ2 h2 s2 l2 y2 => ?_
  refine do_step kh s2 l2 h2 (F.on (y1.trans y2)).exc fun x3 hp3 H3 φ3 h3 s3 l3 y3 => ?_
  obtain ⟨d, e, rfl, rfl⟩ := lft_ok h3
  exact hs H3 φ3 hp' v x x2 x3 d s3 (r1.mono s1 (y2.trans y3)) e Q fun H' y4 s4 v r => F H' φ3 (((y1.trans y2).trans y3).trans y4) s4 v r
end
end Mi
-- Mir4
set_option Elab.async false
set_option linter.all false
set_option maxRecDepth 100000
set_option maxHeartbeats 2000000
namespace Mi
open PySem L2 PyProof.Rows PySem.Spec
/-! ### statements' words -/
def sE {α : Type} (m : M α) (f : α → MS) : MS := fun env hp => match m env hp with
  | some (.ok a, hp1) => f a env hp1
  | some (.ex c d, hp1) => some (.ex c d, env, hp1)
  | none => none
def sNil : MS := fun env hp => some (.nx, env, hp)
def sSeq (a b : MS) : MS := fun env hp => match a env hp with
  | some (.nx, env1, hp1) => b env1 hp1
  | r => r
def sSet (i : Nat) (m : M D) : MS := sE m fun d env hp => some (.nx, env.set i (some d), hp)
def sDrop (m : M D) : MS := sE m fun _ => sNil
def sRet (m : M D) : MS := sE m fun d env hp => some (.rt d, env, hp)
def sIf (c : M Bool) (a b : MS) : MS := sE c fun k => if k = true then a else b
def sBrk : MS := fun env hp => some (.bk, env, hp)
def sCont : MS := fun env hp => some (.ct, env, hp)
/-- targets -/
abbrev MG := D → Env → Hs → Option (Env × Hs)
abbrev MGs := List D → Env → Hs → Option (Env × Hs)
def gN (i : Nat) : MG := fun d env hp => some (env.set i (some d), hp)
def gsNil : MGs := fun ds env hp => match ds with
  | [] => some (env, hp)
  | _ => none
def gsCons (g : MG) (r : MGs) : MGs := fun ds env hp => match ds with
  | d :: ds => match g d env hp with
    | some (env1, hp1) => r ds env1 hp1
    | none => none
  | [] => none
def gT (n : Nat) (r : MGs) : MG := fun d env hp => match look hp d with
  | .tup xs => if xs.length = n then r xs env hp else none
  | .itm xs => if xs.length = n then r xs env hp else none
  | _ => none
def sAsg (m : M D) (g : MG) : MS := sE m fun d env hp => match g d env hp with
  | some (env1, hp1) => some (.nx, env1, hp1)
  | none => none
section
variable {X : Cx} {W : WX} {K : PySem.W.Frag} {H H' H1 H2 : Hp} {φ φ' φ1 φ2 : Ph} {hp hp' hp1 hp2 : Hs} {v : V} {d : D} {vs : List V} {ds : List D} {p : Addr} {σ : L2.St} {env env' : Env} {Q : VK}
variable {a b c e : Expr} {es : List Expr} {ma mb mc : M D} {pos : Pos} {st : Stmt} {sts : List Stmt} {ms mr : MS} {fl : Fl}
theorem Sls.set (l : Sls K H φ hp σ env) (r : Rep K H φ hp v d) (i : Nat) : Sls K H φ hp (σ.set i (some v)) (env.set i (some d)) := by
  refine ⟨by simp [l.1], fun j e h => ?_⟩
  by_cases z : j = i
  · subst z
    have hj : j < env.length := by have := (List.getElem?_eq_some_iff.mp h).1; simpa using this
    rw [List.getElem?_set_self hj] at h
    cases h
    exact ⟨v, by rw [List.getElem?_set_self (by rw [l.1]; exact hj)], r⟩
  · rw [List.getElem?_set_ne (Ne.symm z)] at h ⊢
    exact l.2 j e h
theorem sE_ok {α : Type} {m : M α} {f : α → MS} (h : sE m f env hp = some (fl, env', hp')) :
    (∃ x hp1, m env hp = some (.ok x, hp1) ∧ f x env hp1 = some (fl, env', hp')) ∨ (∃ c d, m env hp = some (.ex c d, hp') ∧ fl = .ex c d ∧ env' = env) := by
  unfold sE at h
  split at h
  · rename_i x hp1 e; exact .inl ⟨x, hp1, e, h⟩
  · rename_i c d hp1 e
    cases h
    exact .inr ⟨c, d, e, rfl, rfl⟩
  · cases h
theorem FinS.on {D : Ends} (F : FinS X W H φ hp fl env' hp' D) (y : Ext H φ hp H1 φ1 hp1) : FinS X W H1 φ1 hp1 fl env' hp' D := fun σ' H' φ' z s' l' => F σ' H' φ' (y.trans z) s' l'
theorem ts_stepE {ta : TE} {m : M D} {f : D → MS} {D : Ends} (ok : TEok X W ta m) (s : SR X.K H φ hp) (l : Sls X.K H φ hp σ env) (h : sE m f env hp = some (fl, env', hp')) (F : FinS X W H φ hp fl env' hp' D) {R : VK}
    (k : ∀ x hp1 H1 φ1 v, f x env hp1 = some (fl, env', hp') → SR X.K H1 φ1 hp1 → Sls X.K H1 φ1 hp1 σ env → Rep X.K H1 φ1 hp1 v x → Ext H φ hp H1 φ1 hp1 → FinS X W H1 φ1 hp1 fl env' hp' D → R v H1) : ta σ H R := by
  rcases sE_ok h with ⟨x, hp1, e1, e2⟩ | ⟨c, d, e1, rfl, rfl⟩
  · exact ok σ H φ env hp _ _ s l e1 R fun H1 φ1 y s1 v r => k x hp1 H1 φ1 v e2 s1 (l.mono s y) r y (F.on y)
  · exact ok σ H φ env' hp _ _ s l e1 R fun H1 φ1 y s1 => F σ H1 φ1 y s1 (l.mono s y)
theorem ts_stepT {t : TT} {m : M Bool} {f : Bool → MS} {D : Ends} (ok : TTok X W t m) (s : SR X.K H φ hp) (l : Sls X.K H φ hp σ env) (h : sE m f env hp = some (fl, env', hp')) (F : FinS X W H φ hp fl env' hp' D) {R : Bool → Hp → Prop}
    (k : ∀ x hp1 H1 φ1, f x env hp1 = some (fl, env', hp') → SR X.K H1 φ1 hp1 → Sls X.K H1 φ1 hp1 σ env → Ext H φ hp H1 φ1 hp1 → FinS X W H1 φ1 hp1 fl env' hp' D → R x H1) : t σ H R := by
  rcases sE_ok h with ⟨x, hp1, e1, e2⟩ | ⟨c, d, e1, rfl, rfl⟩
  · exact ok σ H φ env hp _ _ s l e1 R fun H1 φ1 y s1 => k x hp1 H1 φ1 e2 s1 (l.mono s y) y (F.on y)
  · exact ok σ H φ env' hp _ _ s l e1 R fun H1 φ1 y s1 => F σ H1 φ1 y s1 (l.mono s y)
/-! ### blocks -/
theorem dss_nil : DSs X W [] sNil := ⟨_, pss_nil, fun σ H φ env hp fl env' hp' s l h D F => by cases h; exact F σ H φ Ext.refl s l⟩
theorem dss_cons (h1 : DS X W st ms) (h2 : DSs X W sts mr) : DSs X W (st :: sts) (sSeq ms mr) := by
  obtain ⟨t, p, k⟩ := h1
  obtain ⟨u, q, j⟩ := h2
  refine ⟨_, pss_cons p q, fun σ H φ env hp fl env' hp' s l h D F => ?_⟩
  unfold sSeq at h
  split at h
  · rename_i env1 hp1 e
    exact k σ H φ env hp _ _ _ s l e _ fun σ1 H1 φ1 y s1 l1 => j σ1 H1 φ1 env1 hp1 _ _ _ s1 l1 h D (F.on y)
  · rename_i r hne
    refine k σ H φ env hp _ _ _ s l h _ fun σ1 H1 φ1 y s1 l1 => ?_
    have z := F σ1 H1 φ1 y s1 l1
    cases fl with
    | nx => exact absurd h (hne env' hp')
    | rt d => exact z
    | bk => exact z
    | ct => exact z
    | ex c d => exact z
theorem ds_break : DS X W (.Break pos) sBrk := ⟨_, ps_break, fun σ H φ env hp fl env' hp' s l h D F => by cases h; exact F σ H φ Ext.refl s l⟩
theorem ds_expr (ha : DE X W e ma) (hs : swapsWith e none pos.line X.env = pure false := by rfl) : DS X W (.Expr e pos) (sDrop ma) := by
  obtain ⟨t, p, k⟩ := ha
  refine ⟨_, ps_expr p hs, fun σ H φ env hp fl env' hp' s l h D F => ?_⟩
  refine ts_stepE k s l h F fun x hp1 H1 φ1 v h1 s1 l1 r1 y1 F1 => ?_
  cases h1; exact F1 σ H1 φ1 Ext.refl s1 l1
theorem ds_ret (ha : DE X W e ma) : DS X W (.Return (some e) pos) (sRet ma) := by
  obtain ⟨t, p, k⟩ := ha
  refine ⟨_, ps_ret p, fun σ H φ env hp fl env' hp' s l h D F => ?_⟩
  refine ts_stepE k s l h F fun x hp1 H1 φ1 v h1 s1 l1 r1 y1 F1 => ?_
  cases h1; exact F1 σ H1 φ1 Ext.refl s1 l1 v r1
theorem ds_if {t f : List Stmt} {c : Expr} {cm : M Bool} (hc : DT X W c cm) (ha : DSs X W t ms) (hb : DSs X W f mr) : DS X W (.If c t f pos) (sIf cm ms mr) := by
  obtain ⟨_, p, k⟩ := hc
  obtain ⟨_, q, j⟩ := ha
  obtain ⟨_, q2, j2⟩ := hb
  refine ⟨_, ps_if p q q2, fun σ H φ env hp fl env' hp' s l h D F => ?_⟩
  refine ts_stepT k s l h F fun x hp1 H1 φ1 h1 s1 l1 y1 F1 => ?_
  cases x with
  | true => exact iteT (j σ H1 φ1 env hp1 _ _ _ s1 l1 h1 D F1)
  | false => exact iteF (j2 σ H1 φ1 env hp1 _ _ _ s1 l1 h1 D F1)
/-! ### targets; fp: the slots that they may store -/
def TGok (X : Cx) (fp : List Nat) (g : TG) (m : MG) : Prop := ∀ v d σ H φ env hp env' hp', SR X.K H φ hp → Sls X.K H φ hp σ env → Rep X.K H φ hp v d → m d env hp = some (env', hp') → ∀ Q : L2.St → Hp → Prop,
  (∀ σ' H' φ', Ext H φ hp H' φ' hp' → SR X.K H' φ' hp' → Sls X.K H' φ' hp' σ' env' → (∀ j, j ∉ fp → σ'[j]? = σ[j]?) → σ'.length = σ.length → Q σ' H') → g v σ H Q
def TGsok (X : Cx) (fp : List Nat) (g : TGs) (m : MGs) : Prop := ∀ vs ds σ H φ env hp env' hp', SR X.K H φ hp → Sls X.K H φ hp σ env → Reps X.K H φ hp vs ds → m ds env hp = some (env', hp') → ∀ Q : L2.St → Hp → Prop,
  (∀ σ' H' φ', Ext H φ hp H' φ' hp' → SR X.K H' φ' hp' → Sls X.K H' φ' hp' σ' env' → (∀ j, j ∉ fp → σ'[j]? = σ[j]?) → σ'.length = σ.length → Q σ' H') → g vs σ H Q
def DG (X : Cx) (fp : List Nat) (tg : Expr) (m : MG) : Prop := ∃ g, PG X tg g ∧ TGok X fp g m
def DGs (X : Cx) (fp : List Nat) (tgs : List Expr) (m : MGs) : Prop := ∃ g, PGs X tgs g ∧ TGsok X fp g m
theorem dg_name {i : Nat} {x : Str} (hN : X.N.Nodup) (hi : X.N[i]? = some x) (hx : Loc X.env.scope x) (hf : X.fn x = true ∨ X.env.scope.names.lookup x = some .local := by first | exact .inl rfl | exact .inr rfl | assumption) : DG X [i] (.Name x pos) (gN i) := by
  refine ⟨_, pg_name hN hi hx hf, fun v d σ H φ env hp env' hp' s l r h Q F => ?_⟩
  cases h
  exact F _ H φ Ext.refl s (l.set r i) (fun j hj => List.getElem?_set_ne (fun e => hj (by simp [e]))) (by simp)
theorem dgs_nil {fp} : DGs X fp [] gsNil := by
  refine ⟨_, pgs_nil, fun vs ds σ H φ env hp env' hp' s l r h Q F => ?_⟩
  cases r with
  | nil => cases h; exact ⟨rfl, F _ H φ Ext.refl s l (fun _ _ => rfl) rfl⟩
  | cons r rs => cases h
theorem dgs_cons {fp1 fp2 : List Nat} {g : MG} {gs : MGs} (h1 : DG X fp1 e g) (h2 : DGs X fp2 es gs)
    (hs : (assignEach (e :: es) X.env).map (·.2) = assign e X.env :: (assignEach es X.env).map (·.2) := by rfl) : DGs X (fp1 ++ fp2) (e :: es) (gsCons g gs) := by
  obtain ⟨t, p, k⟩ := h1
  obtain ⟨u, q, j⟩ := h2
  refine ⟨_, pgs_cons p q hs, fun vs ds σ H φ env hp env' hp' s l r h Q F => ?_⟩
  cases r with
  | nil => cases h
  | cons r rs =>
    unfold gsCons at h
    dsimp only at h
    split at h
    · rename_i env1 hp1 e1
      refine ⟨_, _, rfl, k _ _ σ H φ env hp env1 hp1 s l r e1 _ fun σ1 H1 φ1 y1 s1 l1 z1 n1 => ?_⟩
      refine j _ _ σ1 H1 φ1 env1 hp1 env' hp' s1 l1 (rs.mono s y1) h Q fun σ2 H2 φ2 y2 s2 l2 z2 n2 => ?_
      exact F σ2 H2 φ2 (y1.trans y2) s2 l2 (fun i hi => (z2 i (fun w => hi (List.mem_append_right _ w))).trans (z1 i (fun w => hi (List.mem_append_left _ w)))) (n2.trans n1)
    · cases h
theorem dg_tup {fp : List Nat} {k : Nat} {gs : MGs} {n : Nat} (hc : X.calm = true) (h : DGs X fp es gs)
    (hn : (assignEach es X.env).length = n := by rfl) (hst : (assignEach es X.env).findIdx? (·.1) = none := by rfl) : DG X fp (.Tuple es k pos) (gT n gs) := by
  obtain ⟨t, p, kk⟩ := h
  refine ⟨_, pg_tup hc p hn hst, fun v d σ H φ env hp env' hp' s l r h Q F => ?_⟩
  unfold gT at h
  split at h
  · rename_i xs e
    split at h
    · rename_i hl
      obtain ⟨a, us, rfl, hq, rs⟩ := rep_tup s r e
      exact ⟨a, us, rfl, hq.sq, by rw [rs.length]; exact hl, kk us xs σ H φ env hp env' hp' s l rs h Q F⟩
    · cases h
  · rename_i xs e
    split at h
    · rename_i hl
      obtain ⟨a, us, rfl, hq, rs⟩ := rep_itm s r e
      exact ⟨a, us, rfl, hq, by rw [rs.length]; exact hl, kk us xs σ H φ env hp env' hp' s l rs h Q F⟩
    · cases h
  · cases h
theorem ds_asg {fp : List Nat} {tg : Expr} {g : MG} (ha : DE X W e ma) (hg : DG X fp tg g) (hs : swapsWithSole [tg] e pos.line X.env = pure false := by rfl) (hw : swappedStores [tg] e X.env = pure none := by rfl)
    (h1 : (assignEach [tg] X.env).map (·.2) = [assign tg X.env] := by rfl) : DS X W (.Assign [tg] e pos) (sAsg ma g) := by
  obtain ⟨t, p, k⟩ := ha
  obtain ⟨u, q, j⟩ := hg
  refine ⟨_, ps_asg p q hs hw h1, fun σ H φ env hp fl env' hp' s l h D F => ?_⟩
  refine ts_stepE k s l h F fun x hp1 H1 φ1 v h1 s1 l1 r1 y1 F1 => ?_
  split at h1
  · rename_i env1 hp2 e1
    cases h1
    exact j v x σ H1 φ1 env hp1 _ _ s1 l1 r1 e1 _ fun σ2 H2 φ2 y2 s2 l2 _ _ => F1 σ2 H2 φ2 y2 s2 l2
  · cases h1
theorem ds_set {i : Nat} {x : Str} {pos' : Pos} (hN : X.N.Nodup) (hi : X.N[i]? = some x) (hx : Loc X.env.scope x) (he : DE X W e ma) (hs : swapsWith e (some (.Name x pos')) pos.line X.env = pure false := by rfl) (hf : X.fn x = true ∨ X.env.scope.names.lookup x = some .local := by first | exact .inl rfl | exact .inr rfl | assumption) :
    DS X W (.Assign [.Name x pos'] e pos) (sSet i ma) := by
  obtain ⟨t, p, k⟩ := he
  refine ⟨_, ps_set hN hi hx p hs hf, fun σ H φ env hp fl env' hp' s l h D F => ?_⟩
  refine ts_stepE k s l h F fun x hp1 H1 φ1 v h1 s1 l1 r1 y1 F1 => ?_
  cases h1
  exact F1 _ H1 φ1 Ext.refl s1 (l1.set r1 i)
/-- a, b = x, y -/
def sPar (i j : Nat) (as : M (List D)) : MS := sE as fun ds env hp => match ds with
  | [x, y] => some (.nx, (env.set i (some x)).set j (some y), hp)
  | _ => none
theorem ts_stepA {t : TA} {m : M (List D)} {f : List D → MS} {D : Ends} (ok : TAok X W t m) (s : SR X.K H φ hp) (l : Sls X.K H φ hp σ env) (h : sE m f env hp = some (fl, env', hp')) (F : FinS X W H φ hp fl env' hp' D) {R : List V → Hp → Prop}
    (k : ∀ x hp1 H1 φ1 vs, f x env hp1 = some (fl, env', hp') → SR X.K H1 φ1 hp1 → Sls X.K H1 φ1 hp1 σ env → Reps X.K H1 φ1 hp1 vs x → Ext H φ hp H1 φ1 hp1 → FinS X W H1 φ1 hp1 fl env' hp' D → R vs H1) : t σ H R := by
  rcases sE_ok h with ⟨x, hp1, e1, e2⟩ | ⟨c, d, e1, rfl, rfl⟩
  · exact ok σ H φ env hp _ _ s l e1 R fun H1 φ1 y s1 vs r => k x hp1 H1 φ1 vs e2 s1 (l.mono s y) r y (F.on y)
  · exact ok σ H φ env' hp _ _ s l e1 R fun H1 φ1 y s1 => F σ H1 φ1 y s1 (l.mono s y)
theorem ds_par {i j : Nat} {x y : Str} {mas : M (List D)} {px py pt : Pos} {kt k2 pt2} (hc : X.calm = true) (hN : X.N.Nodup) (hi : X.N[i]? = some x) (hj : X.N[j]? = some y) (hij : i ≠ j)
    (hx : X.env.scope.names.lookup x = some .local) (hy : X.env.scope.names.lookup y = some .local) (ha : DA X W [a, b] mas)
    (hw : swappedStores [.Tuple [.Name x px, .Name y py] kt pt] (.Tuple [a, b] k2 pt2) X.env = pure (some [x, y]))
    (hs : swapsWithSole [.Tuple [.Name x px, .Name y py] kt pt] (.Tuple [a, b] k2 pt2) pos.line X.env = pure false := by rfl) :
    DS X W (.Assign [.Tuple [.Name x px, .Name y py] kt pt] (.Tuple [a, b] k2 pt2) pos) (sPar i j mas) := by
  obtain ⟨t, p, k⟩ := ha
  refine ⟨_, ps_par hc hN hi hj hij hx hy p hw hs, fun σ H φ env hp fl env' hp' s l h D F => ?_⟩
  refine ts_stepA k s l h F fun xs hp1 H1 φ1 vs h1 s1 l1 r1 y1 F1 => ?_
  split at h1
  · cases h1
    cases r1 with
    | cons r1 rs => cases rs with
      | cons r2 rs => cases rs; exact ⟨_, _, rfl, F1 _ H1 φ1 Ext.refl s1 ((l1.set r1 i).set r2 j)⟩
  · cases h1
/-! ### what a loop walks -/
/-- from the state on, the iterator gives the data xs, one by one -/
def ItOk (K : PySem.W.Frag) (H0 : Hp) (φ0 : Ph) (hp0 : Hs) (keep : Hs → Prop) (J : It) (xs : List D) : Prop :=
  ∀ i H φ hp, Sub H0 φ0 hp0 H φ hp → SR K H φ hp → keep hp → (∀ d, xs[i]? = some d → J.go i H ∧ ∀ x H', J.yld i H x H' → Ext H φ hp H' φ hp ∧ SR K H' φ hp ∧ Rep K H' φ hp x d) ∧ (i = xs.length → J.stop i H)
structure Src where
  items : List D
  keep : Hs → Prop
def TIok (X : Cx) (W : WX) (wi : TI) (m : M Src) : Prop := ∀ σ H φ env hp o hp', SR X.K H φ hp → Sls X.K H φ hp σ env → m env hp = some (o, hp') → ∀ R : It → Hp → Prop,
  (∀ H' φ', Ext H φ hp H' φ' hp' → SR X.K H' φ' hp' → match o with
    | .ok xs => ∀ J, ItOk X.K H' φ' hp' xs.keep J xs.items → R J H'
    | .ex c d => ∀ cls da, XRep X.K X.mg H' φ' hp' c d cls da → W cls da σ H') → wi σ H R
def DI (X : Cx) (W : WX) (tg iter : Expr) (m : M Src) : Prop := ∃ wi, PI X tg iter wi ∧ TIok X W wi m
open Classical in
noncomputable def forL (g : MG) (body : MS) (keep : Hs → Prop) : List D → MS
  | [] => fun env hp => if keep hp then some (.nx, env, hp) else none
  | x :: xs => fun env hp => if keep hp then match g x env hp with
    | some (env1, hp1) => match body env1 hp1 with
      | some (.nx, env2, hp2) => forL g body keep xs env2 hp2
      | some (.ct, env2, hp2) => forL g body keep xs env2 hp2
      | some (.bk, env2, hp2) => some (.nx, env2, hp2)
      | r => r
    | none => none
    else none
noncomputable def sFor (w : M Src) (g : MG) (body : MS) : MS := sE w fun xs => forL g body xs.keep xs.items
theorem for_core {D : Ends} {J : It} {g : TG} {mg : MG} {tb : TS} {mb : MS} {fp : List Nat} {items : List Mi.D} {keep : Hs → Prop} (kg : TGok X fp g mg) (kb : TSok X W tb mb)
    (s1 : SR X.K H1 φ1 hp1) (l1 : Sls X.K H1 φ1 hp1 σ env) (hJ : ItOk X.K H1 φ1 hp1 keep J items) (e2 : forL mg mb keep items env hp1 = some (fl, env', hp')) (F : FinS X W H1 φ1 hp1 fl env' hp' D) :
    ∃ W : Nat → Nat → L2.St → Hp → Prop, (∃ m, W 0 m σ H1) ∧ ∀ i m σ2 H2, W i m σ2 H2 → (J.stop i H2 ∧ D.nx σ2 H2) ∨
      (J.go i H2 ∧ ∃ Nx : L2.St → Hp → Prop, (∀ σ' H', Nx σ' H' → ∃ m', m' < m ∧ W (i + 1) m' σ' H') ∧ ∀ v H', J.yld i H2 v H' → g v σ2 H' fun σ3 H3 => tb { D with nx := Nx, ct := Nx, bk := D.nx } σ3 H3) := by
  refine ⟨fun i m σ2 H2 => ∃ φ2 env2 hp2, m = items.length - i ∧ i ≤ items.length ∧ Ext H1 φ1 hp1 H2 φ2 hp2 ∧ SR X.K H2 φ2 hp2 ∧ Sls X.K H2 φ2 hp2 σ2 env2 ∧ forL mg mb keep (items.drop i) env2 hp2 = some (fl, env', hp'),
    ⟨_, φ1, env, hp1, rfl, Nat.zero_le _, Ext.refl, s1, l1, e2⟩, ?_⟩
  rintro i m σ2 H2 ⟨φ2, env2, hp2, rfl, hi, y2, s2, l2, h2⟩
  cases hd : items[i]? with
  | none =>
    have hge : items.length ≤ i := List.getElem?_eq_none_iff.mp hd
    rw [List.drop_eq_nil_of_le hge] at h2
    unfold forL at h2
    split at h2
    · rename_i hk
      cases h2
      exact .inl ⟨(hJ i H2 φ2 _ y2.toSub s2 hk).2 (Nat.le_antisymm hi hge), F σ2 H2 φ2 y2 s2 l2⟩
    · cases h2
  | some x =>
    have hlt : i < items.length := (List.getElem?_eq_some_iff.mp hd).1
    have hx : items.drop i = x :: items.drop (i + 1) := by
      rw [List.drop_eq_getElem_cons hlt]
      have := (List.getElem?_eq_some_iff.mp hd).2
      rw [this]
    rw [hx] at h2
    unfold forL at h2
    split at h2
    · rename_i hk
      obtain ⟨hgo, hy⟩ := (hJ i H2 φ2 _ y2.toSub s2 hk).1 x hd
      split at h2
      · rename_i env3 hp3 e3
        refine .inr ⟨hgo, fun σ4 H4 => ∃ φ4 env4 hp4, Ext H1 φ1 hp1 H4 φ4 hp4 ∧ SR X.K H4 φ4 hp4 ∧ Sls X.K H4 φ4 hp4 σ4 env4 ∧ forL mg mb keep (items.drop (i + 1)) env4 hp4 = some (fl, env', hp'), ?_, fun v H2' hy' => ?_⟩
        · rintro σ4 H4 ⟨φ4, env4, hp4, y4, s4, l4, h4⟩
          exact ⟨items.length - (i + 1), by omega, φ4, env4, hp4, rfl, hlt, y4, s4, l4, h4⟩
        · obtain ⟨z1, z2, z3⟩ := hy v H2' hy'
          refine kg v x σ2 H2' φ2 env2 hp2 env3 hp3 z2 (l2.mono s2 z1) z3 e3 _ fun σ3 H3 φ3 y3 s3 l3 _ _ => ?_
          have yy := (y2.trans z1).trans y3
          split at h2
          · rename_i env5 hp5 e5
            exact kb σ3 H3 φ3 env3 hp3 _ _ _ s3 l3 e5 _ fun σ5 H5 φ5 y5 s5 l5 => ⟨φ5, env5, hp5, yy.trans y5, s5, l5, h2⟩
          · rename_i env5 hp5 e5
            exact kb σ3 H3 φ3 env3 hp3 _ _ _ s3 l3 e5 _ fun σ5 H5 φ5 y5 s5 l5 => ⟨φ5, env5, hp5, yy.trans y5, s5, l5, h2⟩
          · rename_i env5 hp5 e5
            cases h2
            exact kb σ3 H3 φ3 env3 hp3 _ _ _ s3 l3 e5 _ fun σ5 H5 φ5 y5 s5 l5 => F σ5 H5 φ5 (yy.trans y5) s5 l5
          · rename_i r n1 n2 n3
            refine kb σ3 H3 φ3 env3 hp3 _ _ _ s3 l3 h2 _ fun σ5 H5 φ5 y5 s5 l5 => ?_
            have z := F σ5 H5 φ5 (yy.trans y5) s5 l5
            cases fl with
            | nx => exact absurd h2 (n1 env' hp')
            | rt d => exact z
            | bk => exact absurd h2 (n3 env' hp')
            | ct => exact absurd h2 (n2 env' hp')
            | ex c d => exact z
      · cases h2
    · cases h2
theorem ds_for {fp : List Nat} {tg iter : Expr} {body : List Stmt} {w : M Src} {g : MG} {mb : MS} (hp : PassesOwn (model X.prog X.w) X.A X.env X.xe) (hc : X.calm = true) (hi : DI X W tg iter w) (hg : DG X fp tg g) (hb : DSs X W body mb)
    (hs : ∀ x, foldedSetIterable iter X.env x = pure x := by intro _; rfl) : DS X W (.For tg iter body [] pos) (sFor w g mb) := by
  obtain ⟨wi, pi, ki⟩ := hi
  obtain ⟨tg, pg, kg⟩ := hg
  obtain ⟨tb, pb, kb⟩ := hb
  refine ⟨_, ps_for hp hc pi pg pb hs, fun σ H φ env hp fl env' hp' s l h D F => ?_⟩
  rcases sE_ok h with ⟨xs, hp1, e1, e2⟩ | ⟨c, d, e1, rfl, rfl⟩
  · refine ki σ H φ env hp _ _ s l e1 _ fun H1 φ1 y1 s1 J hJ => ?_
    exact for_core kg kb s1 (l.mono s y1) hJ e2 (F.on y1)
  · exact ki σ H φ env' hp _ _ s l e1 _ fun H1 φ1 y1 s1 => F σ H1 φ1 y1 s1 (l.mono s y1)
/-! ### while -/
def whileL (c : M Bool) (body : MS) : Nat → MS
  | 0 => fun _ _ => none
  | n + 1 => sE c fun k => if k = true then fun env hp => match body env hp with
      | some (.nx, env2, hp2) => whileL c body n env2 hp2
      | some (.ct, env2, hp2) => whileL c body n env2 hp2
      | some (.bk, env2, hp2) => some (.nx, env2, hp2)
      | r => r
    else sNil
theorem ds_while {c : Expr} {body : List Stmt} {cm : M Bool} {mb : MS} (n : Nat) (hp : PassesOwn (model X.prog X.w) X.A X.env X.xe) (hc : DT X W c cm) (hb : DSs X W body mb) : DS X W (.While c body [] pos) (whileL cm mb n) := by
  obtain ⟨tc, pc, kc⟩ := hc
  obtain ⟨tb, pb, kb⟩ := hb
  refine ⟨_, ps_while hp pc pb, fun σ H φ env hp fl env' hp' s l h D F => ?_⟩
  refine ⟨fun m σ2 H2 => ∃ φ2 env2 hp2, Ext H φ hp H2 φ2 hp2 ∧ SR X.K H2 φ2 hp2 ∧ Sls X.K H2 φ2 hp2 σ2 env2 ∧ whileL cm mb m env2 hp2 = some (fl, env', hp'), ⟨n, φ, env, hp, Ext.refl, s, l, h⟩, ?_⟩
  rintro m σ2 H2 ⟨φ2, env2, hp2, y2, s2, l2, h2⟩
  cases m with
  | zero => cases h2
  | succ m =>
    unfold whileL at h2
    refine ts_stepT kc s2 l2 h2 (F.on y2) fun k hp3 H3 φ3 h3 s3 l3 y3 F3 => ?_
    cases k with
    | false =>
      rw [if_neg Bool.false_ne_true] at h3
      cases h3
      exact iteF (F3 σ2 H3 φ3 Ext.refl s3 l3)
    | true =>
      rw [if_pos rfl] at h3
      refine iteT ⟨fun σ4 H4 => ∃ φ4 env4 hp4, Ext H φ hp H4 φ4 hp4 ∧ SR X.K H4 φ4 hp4 ∧ Sls X.K H4 φ4 hp4 σ4 env4 ∧ whileL cm mb m env4 hp4 = some (fl, env', hp'), ?_, ?_⟩
      · rintro σ4 H4 q
        exact ⟨m, Nat.lt_succ_self m, q⟩
      · have yy := y2.trans y3
        split at h3
        · rename_i env5 hp5 e5
          exact kb σ2 H3 φ3 env2 hp3 _ _ _ s3 l3 e5 _ fun σ5 H5 φ5 y5 s5 l5 => ⟨φ5, env5, hp5, yy.trans y5, s5, l5, h3⟩
        · rename_i env5 hp5 e5
          exact kb σ2 H3 φ3 env2 hp3 _ _ _ s3 l3 e5 _ fun σ5 H5 φ5 y5 s5 l5 => ⟨φ5, env5, hp5, yy.trans y5, s5, l5, h3⟩
        · rename_i env5 hp5 e5
          cases h3
          exact kb σ2 H3 φ3 env2 hp3 _ _ _ s3 l3 e5 _ fun σ5 H5 φ5 y5 s5 l5 => F σ5 H5 φ5 (yy.trans y5) s5 l5
        · rename_i r n1 n2 n3
          refine kb σ2 H3 φ3 env2 hp3 _ _ _ s3 l3 h3 _ fun σ5 H5 φ5 y5 s5 l5 => ?_
          have z := F σ5 H5 φ5 (yy.trans y5) s5 l5
          cases fl with
          | nx => exact absurd h3 (n1 env' hp')
          | rt d => exact z
          | bk => exact absurd h3 (n3 env' hp')
          | ct => exact absurd h3 (n2 env' hp')
          | ex c d => exact z
/-! ### defs -/
abbrev Fn := List D → Hs → Option (Out D × Hs)
/-- a body run with its slots: n of them -/
def runB (n : Nat) (body : MS) : Fn := fun args hp => match body (args.map some ++ List.replicate (n - args.length) none) hp with
  | some (.nx, _, hp1) => some (.ok .non, hp1)
  | some (.rt d, _, hp1) => some (.ok d, hp1)
  | some (.ex c d, _, hp1) => some (.ex c d, hp1)
  | _ => none
/-- the promise -/
def spOf (K : PySem.W.Frag) (mg : Str → Option Value) (n : Nat) (g : Fn) : Sp := fun vs H Q E => ∃ φ hp ds o hp', vs.length = n ∧ SR K H φ hp ∧ Reps K H φ hp vs ds ∧ g ds hp = some (o, hp') ∧
  ∀ H' φ', Ext H φ hp H' φ' hp' → SR K H' φ' hp' → match o with
    | .ok d => ∀ v, Rep K H' φ' hp' v d → Q v H'
    | .ex c d => ∀ cls da, XRep K mg H' φ' hp' c d cls da → E cls da H'
theorem sls_start {N : List Str} (r : Reps K H φ hp vs ds) : Sls K H φ hp (L2.start N vs) (ds.map some ++ List.replicate (N.length - ds.length) none) := by
  have hl := r.length
  refine ⟨by simp [L2.start, hl], fun i d h => ?_⟩
  unfold L2.start
  by_cases hi : i < ds.length
  · rw [List.getElem?_append_left (by simpa using hi), List.getElem?_map] at h
    cases e : ds[i]? with
    | none => rw [e] at h; cases h
    | some d' =>
      rw [e] at h; cases h
      obtain ⟨v, e2, r2⟩ := r.get e
      exact ⟨v, by rw [List.getElem?_append_left (by rw [List.length_map, hl]; exact hi), List.getElem?_map, e2]; rfl, r2⟩
  · rw [List.getElem?_append_right (by simpa using hi)] at h
    have := List.mem_of_getElem? h
    simp at this
section
variable {P : Program} {w : World} {mg : Str → Option Value} {base : Heap}
/-- a def keeps its promise wherever no repr is under way (as FnOk, the guards known) -/
structure FnG (P : Program) (w : World) (K : PySem.W.Frag) (mg : Str → Option Value) (base : Heap) (CX : CXT) (k : Nat) (f : Addr) (fd : FuncData) (ps : List Str) (sp : Sp) : Prop where
  len : ∀ vs H Q E, sp vs H Q E → vs.length = ps.length
  run : ∀ (A : Around) (outer : List PySem.Env) (s : Shared) (H : Hp) (args : Args) (us : List Value) (vs : List V) (Q : VK) (E : XK), Room k A → A.guards = some [] → Env0 P w K mg base A outer s H → BindsTo s fd args (ps.zip us) → Vals vs us → sp vs H Q E →
    codeAny (model P w) A (.call (.ref f) args) (CR CX outer P w H s Q E) s
theorem FnG.mono {CX : CXT} {j k : Nat} {f : Addr} {fd : FuncData} {ps : List Str} {sp : Sp} (F : FnG P w K mg base CX j f fd ps sp) (h : j ≤ k) : FnG P w K mg base CX k f fd ps sp :=
  ⟨F.len, fun A outer s H args us vs Q E hr => F.run A outer s H args us vs Q E (hr.mono h)⟩
theorem fnG_of {CX : CXT} {k : Nat} {f : Addr} {name qual : Str} {params : Arguments} {body : List Stmt} {scope : Scope} {dV kV doc pm cdv ct oc : Value} {an od : Option Addr}
    {osl : Array (Option Value)} {N ps : List Str} {sp : Sp} (lk : K.lookup f = some ⟨oc, od, .func (PySem.W.fnOf name qual params body scope dV kV doc pm an cdv ct), osl⟩) (hcd : PySem.W.codeIn K cdv qual = true) (S : FnScope N ps scope)
    (len : ∀ vs H Q E, sp vs H Q E → vs.length = ps.length)
    (hbody : ∀ (A : Around) (outer : List PySem.Env) (s : Shared) (H : Hp) (vs : List V) (Q : VK) (E : XK), Room k (A.deeper (envOfC qual scope s.heap.objs.size f cdv)) → A.guards = some [] → sp vs H Q E →
      ∃ t, PSs (cxOf CX P w K mg base N qual scope f cdv A outer s H E) body t ∧ t { nx := fun _ H' => Q .non H', rt := Q } (L2.start N vs) H) :
    FnG P w K mg base CX (k + 1) f (PySem.W.fnOf name qual params body scope dV kV doc pm an cdv ct) ps sp := by
  refine ⟨len, fun A outer s H args us vs Q E hr hgd e0 hb r hsp => ?_⟩
  have hl := len _ _ _ _ hsp
  have inK : K.In s.heap := e0.mod.kin.keeps fun b o e => (e0.bs b o e).1
  have hkind : ∀ y ∈ ps.zip us, scope.names.lookup y.1 = some .local ∨ (scope.names.lookup y.1 = some .cell ∧ ((cellsFrom (s.heap.objs.size + 1) scope.names []).lookup y.1).isSome = true) := by
    rintro ⟨n, v⟩ hy
    rcases S.par n (List.of_mem_zip hy).1 with q | q
    · exact .inl q
    · exact .inr ⟨q, PySem.W.cellsFrom_some _ _ _ (.inl q)⟩
  refine codeAny_call_function hr.depth (inK _ _ lk) rfl S.co S.gen rfl (PySem.W.codeRec_of inK hcd) (hb _ _ _ _ (wpAny_newFunctionEnv_cells S.kind hkind fun env he s1 x => ?_))
  subst he
  refine ⟨(e0.mod.nolimit.keeps fun b o e => (e0.bs b o e).1).keeps x.toInCall.keep, codeAny_func ?_⟩
  obtain ⟨t, ht, hq⟩ := hbody A outer s H vs Q E (hr.deeper _) hgd hsp
  refine wpAny_mono (ht.run [] s1 (L2.start N vs) H _ (inv_start S hr.hd e0 hl r x) hq) (fun fl s' hs => ?_) fun e s' hs => hs
  cases fl with
  | ret u =>
    obtain ⟨v, σ', H', J, rv, q⟩ := hs
    exact ⟨v, H', J.os, J.bare, J.base, J.hok, rv, q⟩
  | next =>
    obtain ⟨σ', H', J, q⟩ := hs
    exact ⟨.non, H', J.os, J.bare, J.base, J.hok, rfl, q⟩
  | brk =>
    obtain ⟨_, _, _, q⟩ := hs
    exact q.elim
  | cont =>
    obtain ⟨_, _, _, q⟩ := hs
    exact q.elim
/-- what a body may lean on -/
structure BodyX (X : Cx) (W : WX) (k : Nat) : Prop where
  room : Room k X.A
  tk : Takes X W
  po : PassesOwn (model X.prog X.w) X.A X.env X.xe
  gd : X.A.guards = some []
theorem BodyX.hu {X : Cx} {W : WX} {k : Nat} (b : BodyX X W k) : X.A.units + 64 < cLine := b.room.units
end
/-- a call of a def -/
theorem te_call {t : TA} {mas : M (List D)} {n : Nat} {g : Fn} (k : TAok X W t mas) : TEok X W (tCallS (spOf X.K X.mg n g) (WE W) t) (mCall n g mas) := fun σ H φ env hp o hp' s l h Q F => by
  refine ta_stepG k s l h F.exc fun xs hp1 H1 φ1 vs h1 s1 l1 r1 y1 => ?_
  split at h1
  · rename_i hn
    refine ⟨φ1, hp1, xs, o, hp', by rw [r1.length]; exact hn, s1, r1, h1, fun H' φ' y2 s2 => ?_⟩
    cases o with
    | ok d => exact F H' φ' (y1.trans y2) s2
    | ex c d => exact F H' φ' (y1.trans y2) s2
  · cases h1
theorem run_fnG {CX : CXT} {k : Nat} {f : Addr} {fd : FuncData} {ps : List Str} {sp : Sp} {E : XK} {pins : List (Addr × Obj)} {s : Shared} {us : List Value} (F : FnG X.prog X.w X.K X.mg X.base CX k f fd ps sp) (hr : Room k X.A) (gd : X.A.guards = some []) (hb : Binds X.K fd ps []) (hx : PassesAt CX X σ E)
    (I : Inv X pins σ H s) (r : Vals vs us) (h : sp vs H Q E) : wpAny (model X.prog X.w) X.A (call (.ref f) us) (EP X pins σ Q) X.xe s := by
  have b := hb s us I.kIn (by rw [List.append_nil, ← r.length]; exact F.len _ _ _ _ h)
  rw [List.append_nil] at b
  refine wpAny_call (codeAny_mono (F.run X.A X.stack s H ⟨us, []⟩ us vs Q E hr gd I.env0 b r h) fun res s' hq => ?_)
  cases res with
  | error e => exact hx pins H s e s' I hq
  | ok fl => cases fl with
    | ret u => exact I.after hq
    | next => exact False.elim hq
    | brk => exact False.elim hq
    | cont => exact False.elim hq
theorem de_call {x : Str} {p : Pos} {k n : Nat} {f : Addr} {fd : FuncData} {ps : List Str} {g : Fn} {mas : M (List D)} (Fo : FnG X.prog X.w X.K X.mg X.base (L2.CX X.prog X.w) k f fd ps (spOf X.K X.mg n g)) (hr : Room k X.A) (gd : X.A.guards = some []) (tk : Takes X W) (hm : X.mg x = some (.ref f)) (hk : PySem.W.keepIn X.K (.ref f) = true) (hb : Binds X.K fd ps [])
    (ha : DA X W (e :: es) mas) (hg : Gl X x := by rfl) (hdb : (x == ("__debug__" : Str)) = false := by decide) (he : starEach (e :: es) X.env = (false, eval e X.env) :: starEach es X.env := by rfl) (hpl : (backTo pos (starEach es X.env)).any (·.1) = false := by rfl) :
    DE X W (.Call (.Name x p) (e :: es) [] pos) (mCall n g mas) := by
  obtain ⟨t, q, kk⟩ := ha
  refine ⟨tCallS (spOf X.K X.mg n g) (WE W) t, ⟨fun pins s σ H Q I h => ?_⟩, te_call kk⟩
  refine wpAny_Call_Name_kw (ld_glob I hg hm ?_ hdb)
  exact PySem.W.callWith_K (h₀ := X.base) I.ok.mod.kin hk (thn (q.run pos pins s σ H _ I h) fun us s1 ⟨vs, H1, I1, r, q⟩ => ⟨I1.kIn, run_fnG Fo hr gd hb (passAt tk σ) I1 r q⟩) he hpl
end
end Mi
-- Mir5
set_option Elab.async false
set_option linter.all false
set_option maxRecDepth 100000
set_option maxHeartbeats 2000000
namespace Mi
open PySem L2 PyProof.Rows PySem.Spec
/-! ### canonical readings -/
def tM (X : Cx) (W : WX) (m : M D) : TE := fun σ H Q => ∃ φ env hp o hp', SR X.K H φ hp ∧ Sls X.K H φ hp σ env ∧ m env hp = some (o, hp') ∧ FinE X W σ H φ hp o hp' Q
def ttM (X : Cx) (W : WX) (m : M Bool) : TT := fun σ H Q => ∃ φ env hp o hp', SR X.K H φ hp ∧ Sls X.K H φ hp σ env ∧ m env hp = some (o, hp') ∧ FinT X W σ H φ hp o hp' Q
def tgM (X : Cx) (fp : List Nat) (m : MG) : TG := fun v σ H Q => ∃ d φ env hp env' hp', SR X.K H φ hp ∧ Sls X.K H φ hp σ env ∧ Rep X.K H φ hp v d ∧ m d env hp = some (env', hp') ∧
  ∀ σ' H' φ', Ext H φ hp H' φ' hp' → SR X.K H' φ' hp' → Sls X.K H' φ' hp' σ' env' → (∀ j, j ∉ fp → σ'[j]? = σ[j]?) → σ'.length = σ.length → Q σ' H'
theorem pe_canon {X : Cx} {W : WX} {e : Expr} {m : M D} (h : DE X W e m) : PE X e (tM X W m) := by
  obtain ⟨t, p, k⟩ := h
  exact ⟨fun pins s σ H Q I ⟨φ, env, hp, o, hp', sr, l, e, F⟩ => p.run pins s σ H Q I (k σ H φ env hp o hp' sr l e Q F)⟩
theorem pt_canon {X : Cx} {W : WX} {e : Expr} {m : M Bool} (h : DT X W e m) : PT X e (ttM X W m) := by
  obtain ⟨t, p, k⟩ := h
  exact ⟨fun pins s σ H Q I ⟨φ, env, hp, o, hp', sr, l, e, F⟩ => p.run pins s σ H Q I (k σ H φ env hp o hp' sr l e Q F)⟩
theorem pg_canon {X : Cx} {fp : List Nat} {e : Expr} {m : MG} (h : DG X fp e m) : PG X e (tgM X fp m) := by
  obtain ⟨t, p, k⟩ := h
  exact ⟨fun pins s σ H v u Q I r ⟨d, φ, env, hp, env', hp', sr, l, rr, e, F⟩ => p.run pins s σ H v u Q I r (k v d σ H φ env hp env' hp' sr l rr e Q F)⟩
/-! ### a list that is being filled -/
def del (H : Hp) (a : Addr) : Hp := fun b => if b = a then none else H b
theorem mdel_same {H : Hp} {a : Addr} : del H a a = none := if_pos rfl
theorem mdel_ne {H : Hp} {a b : Addr} (h : b ≠ a) : del H a b = H b := if_neg h
/-- what may be filled: a list, a thing of the layer's own kind -/
def FillO (u : HO) : Prop := (∃ vs, u = .lst vs) ∨ ∃ f, u = .ext f
theorem fill_lst {vs : List V} : FillO (.lst vs) := .inl ⟨vs, rfl⟩
theorem fill_tup {vs : List V} : ¬ FillO (.tup vs) := by rintro (⟨_, e⟩ | ⟨_, e⟩) <;> cases e
theorem fill_frz {o : Obj} {u : HO} : ¬ FillO (.frz o u) := by rintro (⟨_, e⟩ | ⟨_, e⟩) <;> cases e
theorem fill_xd {fs : List (Str × V)} : ¬ FillO (.xd fs) := by rintro (⟨_, e⟩ | ⟨_, e⟩) <;> cases e
theorem fill_tbl {ps : Array Value} : ¬ FillO (.tbl ps) := by rintro (⟨_, e⟩ | ⟨_, e⟩) <;> cases e
def zad (φ : Ph) (a : Addr) : Ph := ⟨φ.f, fun b => φ.Z b ∨ b = a⟩
section
variable {X : Cx} {W : WX} {K : PySem.W.Frag} {H H' H1 H2 : Hp} {φ φ' φ1 φ2 : Ph} {hp hp' hp1 hp2 : Hs} {v : V} {d : D} {vs : List V} {ds : List D} {p : Addr} {σ : L2.St} {env env' : Env} {Q : VK}
theorem upd_del {o : HO} (h : H' p = some o) : upd (del H' p) p o = H' := by
  funext b
  by_cases e : b = p
  · subst e; rw [upd_same, h]
  · rw [upd_ne e, mdel_ne e]
theorem own_zad {a : Addr} : own (zad φ p) hp a ↔ own φ hp a ∨ a = p := by
  unfold own zad
  constructor
  · rintro (h | h | h)
    · exact .inl (.inl h)
    · exact .inl (.inr h)
    · exact .inr h
  · rintro ((h | h) | h)
    · exact .inl h
    · exact .inr (.inl h)
    · exact .inr (.inr h)
theorem Sub.zad {o : HO} (s : SR K H φ hp) (h : H p = none) : Sub H φ hp (upd H p o) (zad φ p) hp where
  len := Nat.le_refl _
  ph := fun _ _ => rfl
  kp := fun a u e _ => by rw [upd_ne (ne_of_none e h)]; exact e
  fr := fun a o => (own_zad.mp o).imp id fun e => by rw [e]; exact h
  nl := fun _ ks xs h => ⟨ks, xs, h⟩
  zk := fun a z _ => by
    have ne : a ≠ p := fun e => by
      rcases s.zs a z with ⟨us, q⟩ | ⟨us, q⟩ | ⟨us, q⟩ <;> (rw [e, h] at q; cases q)
    exact upd_ne ne
theorem SR.zad {u : HO} (hu : FillO u) (s : SR K H φ hp) (h : H p = none) : SR K (upd H p u) (zad φ p) hp where
  inj := s.inj
  obs := fun n o e => by
    have k : ∀ w, H (φ n) = some w → upd H p u (φ n) = some w := fun w q => by rw [upd_ne (ne_of_none q h)]; exact q
    have x : Sub H φ hp (upd H p u) (Mi.zad φ p) hp := Sub.zad s h
    cases s.obs n o e with
    | lst q r => exact .lst (k _ q) (r.monoS s x)
    | dic q r => exact .dic (k _ q) (r.monoS s x)
    | dct q r => exact .dct (q.up k) (r.monoS s x)
    | lkd q r => exact .lkd (q.up k) (r.monoS s x)
    | ins q r => exact .ins (k _ q) (r.monoS s x)
  zn := fun n o e hk z => by
    rcases z with z | z
    · exact s.zn n o e hk z
    · obtain ⟨u, q⟩ := s.own_some (.inl ⟨n, o, e, rfl⟩)
      have z' : φ n = p := z
      rw [z', h] at q; cases q
  zs := fun a z => by
    rcases z with z | z
    · rcases s.zs a z with ⟨us, q⟩ | ⟨us, q⟩ | ⟨us, q⟩
      · exact .inl ⟨us, by rw [upd_ne (ne_of_none q h)]; exact q⟩
      · exact .inr (.inl ⟨us, by rw [upd_ne (ne_of_none q h)]; exact q⟩)
      · exact .inr (.inr ⟨us, by rw [upd_ne (ne_of_none q h)]; exact q⟩)
    · rw [z]
      rcases hu with ⟨vs, rfl⟩ | ⟨f, rfl⟩
      · exact .inl ⟨vs, upd_same⟩
      · exact .inr (.inr ⟨f, upd_same⟩)
  tb := fun t ht => by
    obtain ⟨h1, h2⟩ := s.tb t ht
    exact ⟨.inl h1, h2.mono (Sub.zad s h) (upd_ne fun e => by
      rcases s.zs _ h1 with ⟨us, q⟩ | ⟨us, q⟩ | ⟨us, q⟩ <;> (rw [e, h] at q; cases q))⟩
/-- the filled list is told of no more -/
structure Zd (Z : Addr → Prop) (p : Addr) (φ : Ph) (H : Hp) : Prop where
  z : φ.Z = fun b => Z b ∨ b = p
  n : ¬ Z p
  h : ∃ u, H p = some u ∧ FillO u
theorem Zd.no {Z : Addr → Prop} {w : HO} (k : Zd Z p φ H) (h : H p = some w) : FillO w := by
  obtain ⟨u, e, f⟩ := k.h
  rw [e] at h; cases h; exact f
theorem own_zdl {Z : Addr → Prop} (k : Zd Z p φ H) {a : Addr} : own φ hp a ↔ own ⟨φ.f, Z⟩ hp a ∨ a = p := by
  unfold own
  rw [k.z]
  constructor
  · rintro (h | h | h)
    · exact .inl (.inl h)
    · exact .inl (.inr h)
    · exact .inr h
  · rintro ((h | h) | h)
    · exact .inl h
    · exact .inr (.inl h)
    · exact .inr (.inr h)
mutual
theorem Rep.zdl {Z : Addr → Prop} (k : Zd Z p φ H) : ∀ {v : V} {d : D}, Rep K H φ hp v d → Rep K (del H p) ⟨φ.f, Z⟩ hp v d
  | _, _, .non => .non
  | _, _, .bl b => .bl b
  | _, _, .int b => .int b
  | _, _, .str b => .str b
  | _, _, .tup h r => .tup (h.imp (fun ⟨o, h, hp⟩ => ⟨o, (by rw [mdel_ne]; exact h; rintro rfl; exact fill_frz (k.no h)), hp⟩) id) (Reps.zdl k r)
  | _, _, .itm h r => .itm (by
      rcases h with (h | ⟨o, h⟩) | h
      · exact .inl (.inl (by rw [mdel_ne]; exact h; rintro rfl; exact fill_tup (k.no h)))
      · exact .inl (.inr ⟨o, by rw [mdel_ne]; exact h; rintro rfl; exact fill_frz (k.no h)⟩)
      · exact .inr h) (Reps.zdl k r)
  | _, _, .lst h no r => .lst (by rw [mdel_ne]; exact h; rintro rfl; exact no ((own_zdl k).mpr (.inr rfl))) (fun o => no ((own_zdl k).mpr (.inl o))) (Reps.zdl k r)
  | _, _, .frz h r => .frz (h.imp (fun ⟨o, h⟩ => ⟨o, by rw [mdel_ne]; exact h; rintro rfl; exact fill_frz (k.no h)⟩) id) (Reps.zdl k r)
  | _, _, .dic h no r => .dic (by rw [mdel_ne]; exact h; rintro rfl; exact no ((own_zdl k).mpr (.inr rfl))) (fun o => no ((own_zdl k).mpr (.inl o))) (Reps.zdl k r)
  | _, _, .dct h no r => .dct (h.up fun w e => by rw [mdel_ne]; exact e; rintro rfl; exact no ((own_zdl k).mpr (.inr rfl))) (fun o => no ((own_zdl k).mpr (.inl o))) (Reps.zdl k r)
  | _, _, .adr h no r => .adr (by rw [mdel_ne]; exact h; rintro rfl; exact no ((own_zdl k).mpr (.inr rfl))) (fun o => no ((own_zdl k).mpr (.inl o))) (Reps.zdl k r)
  | _, _, .exc h no c q r => .exc (by rw [mdel_ne]; exact h; rintro rfl; exact no ((own_zdl k).mpr (.inr rfl))) (fun o => no ((own_zdl k).mpr (.inl o))) c
      (by
        rcases q with q | ⟨dd, v, e, hd, q⟩
        · exact .inl q
        · exact .inr ⟨dd, v, e, (by rw [mdel_ne]; exact hd; rintro rfl; exact fill_xd (k.no hd)), q⟩) (Reps.zdl k r)
  | _, _, .ty a => .ty a
  | _, _, .loc h => .loc (φ := ⟨φ.f, Z⟩) h
theorem Reps.zdl {Z : Addr → Prop} (k : Zd Z p φ H) : ∀ {vs : List V} {ds : List D}, Reps K H φ hp vs ds → Reps K (del H p) ⟨φ.f, Z⟩ hp vs ds
  | _, _, .nil => .nil
  | _, _, .cons r rs => .cons (Rep.zdl k r) (Reps.zdl k rs)
end
theorem SR.zdl {Z : Addr → Prop} (k : Zd Z p φ H) (s : SR K H φ hp) (nk : ∀ (n : Nat) ks xs, hp[n]? = some (some (Ob.lkd ks xs)) → φ n ≠ p) : SR K (del H p) ⟨φ.f, Z⟩ hp where
  inj := s.inj
  obs := fun n o e => by
    have ne : φ n ≠ p := by
      cases hk : isLk o with
      | false => exact fun q => s.zn n o e hk (by rw [k.z]; exact .inr q)
      | true =>
        cases o <;> first | cases hk | skip
        exact nk n _ _ e
    have kk : ∀ w, H (φ n) = some w → del H p (φ n) = some w := fun w q => by rw [mdel_ne ne]; exact q
    cases s.obs n o e with
    | lst q r => exact .lst (kk _ q) (r.zdl k)
    | dic q r => exact .dic (kk _ q) (r.zdl k)
    | dct q r => exact .dct (q.up kk) (r.zdl k)
    | lkd q r => exact .lkd (q.up kk) (r.zdl k)
    | ins q r => exact .ins (kk _ q) (r.zdl k)
  zn := fun n o e hk z => s.zn n o e hk (by rw [k.z]; exact .inl z)
  zs := fun a z => by
    have ne : a ≠ p := fun e => k.n (by rw [← e]; exact z)
    rcases s.zs a (by rw [k.z]; exact .inl z) with ⟨us, q⟩ | ⟨us, q⟩ | ⟨us, q⟩
    · exact .inl ⟨us, by rw [mdel_ne ne]; exact q⟩
    · exact .inr (.inl ⟨us, by rw [mdel_ne ne]; exact q⟩)
    · exact .inr (.inr ⟨us, by rw [mdel_ne ne]; exact q⟩)
  tb := fun t ht => by
    obtain ⟨h1, ps, h2, h3, h4⟩ := s.tb t ht
    have ne : t.1 ≠ p := fun e => fill_tbl (k.no (by rw [← e]; exact h2))
    rw [k.z] at h1
    refine ⟨h1.resolve_right ne, ps, by rw [mdel_ne ne]; exact h2, h3, fun pos cv hc => ?_⟩
    obtain ⟨c, e, h, no⟩ := h4 pos cv hc
    exact ⟨c, e, by rw [mdel_ne]; exact h; rintro rfl; exact no ((own_zdl k).mpr (.inr rfl)), fun o => no ((own_zdl k).mpr (.inl o))⟩
theorem Ext.zdh {u0 : HO} (s : SR K H φ hp) (h : H p = none) (x : Ext (upd H p u0) (zad φ p) hp H' φ' hp') : ∀ (n : Nat) ks xs, hp'[n]? = some (some (Ob.lkd ks xs)) → φ' n ≠ p := fun n ks xs e q => by
  obtain ⟨ks2, xs2, e2⟩ := x.nl n ks xs e
  rw [x.ph n (List.getElem?_eq_some_iff.mp e2).1] at q
  have q : φ n = p := q
  obtain ⟨u, q2⟩ := s.own_some (.inl ⟨n, _, e2, rfl⟩)
  rw [q, h] at q2; cases q2
theorem Ext.zdl {u0 : HO} (hu : FillO u0) (s : SR K H φ hp) (h : H p = none) (x : Ext (upd H p u0) (zad φ p) hp H' φ' hp') : Zd φ.Z p φ' H' ∧ H' p = some u0 ∧ Ext H φ hp (del H' p) ⟨φ'.f, φ.Z⟩ hp' := by
  have zp : ¬ φ.Z p := fun z => by rcases s.zs p z with ⟨vs, q⟩ | ⟨vs, q⟩ | ⟨vs, q⟩ <;> (rw [h] at q; cases q)
  have hv : H' p = some u0 := (x.zk p (.inr rfl) (fun ps e => by rw [upd_same] at e; cases e; exact fill_tbl hu)).trans upd_same
  have k : Zd φ.Z p φ' H' := ⟨x.zz, zp, ⟨u0, hv, hu⟩⟩
  refine ⟨k, hv, ⟨⟨x.len, x.ph, fun a u e no => ?_, fun a o => ?_, fun a z n => ?_, x.nl⟩, fun a u e => ?_, rfl⟩⟩
  · have ne := ne_of_none e h
    rw [mdel_ne ne]
    exact x.kp a u (by rw [upd_ne ne]; exact e) fun o => (own_zad.mp o).elim no ne
  · rcases x.fr a ((own_zdl k).mpr (.inl o)) with q | q
    · rcases own_zad.mp q with q | q
      · exact .inl q
      · rw [q]; exact .inr h
    · by_cases e : a = p
      · rw [e]; exact .inr h
      · rw [upd_ne e] at q; exact .inr q
  rotate_left
  · have ne := ne_of_none e h
    rw [mdel_ne ne]
    exact x.th a u (by rw [upd_ne ne]; exact e)
  · have ne : a ≠ p := fun e => zp (by rw [← e]; exact z)
    rw [mdel_ne ne, x.zk a (.inl z) (by rw [upd_ne ne]; exact n), upd_ne ne]
/-! ### comprehensions -/
def wipeE (env : Env) : List Nat → Env
  | [] => env
  | v :: vs => (wipeE env vs).set v none
open Classical in
noncomputable def compL (g : MG) (t : M Bool) (m : M D) (keep : Hs → Prop) (vs : List Nat) : List D → List D → Env → Hs → Option (List D × Hs)
  | [], acc, env, hp => if keep hp then some (acc, hp) else none
  | x :: xs, acc, env, hp => if keep hp then match g x (wipeE env vs) hp with
    | some (env1, hp1) => match t env1 hp1 with
      | some (.ok true, hp2) => match m env1 hp2 with
        | some (.ok d, hp3) => if acc.length < sizeLine then compL g t m keep vs xs (acc ++ [d]) env hp3 else none
        | _ => none
      | some (.ok false, hp2) => compL g t m keep vs xs acc env hp2
      | _ => none
    | none => none
    else none
noncomputable def mComp (w : M Src) (g : MG) (t : M Bool) (m : M D) (vs : List Nat) : M (List D) := fun env hp => match w env hp with
  | some (.ok src, hp1) => match compL g t m src.keep vs src.items [] env hp1 with
    | some (ds, hp2) => some (.ok ds, hp2)
    | none => none
  | some (.ex c d, hp1) => some (.ex c d, hp1)
  | none => none
theorem wipe_get {σ : L2.St} : ∀ {vs : List Nat} {j : Nat}, j ∉ vs → (wipe σ vs)[j]? = σ[j]?
  | [], _, _ => rfl
  | v :: vs, j, h => by
    unfold wipe
    rw [List.getElem?_set_ne (fun e => h (by simp [e])), wipe_get (fun z => h (List.mem_cons_of_mem _ z))]
theorem wipe_in {σ : L2.St} : ∀ {vs : List Nat} {j : Nat}, j ∈ vs → j < σ.length → (wipe σ vs)[j]? = some none
  | v :: vs, j, h, hl => by
    unfold wipe
    by_cases e : v = j
    · subst e
      rw [List.getElem?_set_self (by rw [wipe_length]; exact hl)]
    · rw [List.getElem?_set_ne e]
      exact wipe_in ((List.mem_cons.mp h).resolve_left (Ne.symm e)) hl
theorem wipe_eq {σ σ' : L2.St} {vs fp : List Nat} (hl : σ'.length = σ.length) (h : ∀ j, j ∉ fp → σ'[j]? = (wipe σ vs)[j]?) (hs : ∀ j ∈ fp, j ∈ vs) : wipe σ' vs = wipe σ vs := by
  apply List.ext_getElem?
  intro j
  by_cases e : j ∈ vs
  · by_cases hj : j < σ.length
    · rw [wipe_in e hj, wipe_in e (by rw [hl]; exact hj)]
    · rw [List.getElem?_eq_none (by rw [wipe_length, hl]; omega), List.getElem?_eq_none (by rw [wipe_length]; omega)]
  · rw [wipe_get e, h j (fun z => e (hs j z))]
theorem Sls.wipe (l : Sls K H φ hp σ env) : ∀ vs : List Nat, Sls K H φ hp (L2.wipe σ vs) (wipeE env vs)
  | [] => l
  | v :: vs => by
    have q := Sls.wipe l vs
    unfold L2.wipe wipeE
    refine ⟨by simp [q.1], fun j e h => ?_⟩
    by_cases z : v = j
    · subst z
      have hj : v < (wipeE env vs).length := by have := (List.getElem?_eq_some_iff.mp h).1; simpa using this
      rw [List.getElem?_set_self hj] at h
      cases h
    · rw [List.getElem?_set_ne z] at h ⊢
      exact q.2 j e h
abbrev W0 : WX := fun _ _ _ _ => False
/-- a clause's tests -/
inductive DTs (XX : Shared → Hp → Addr → List (Str × Addr) → List Addr → Cx) : List Expr → M Bool → Prop
  | nil : DTs XX [] (mC true)
  | one {c : Expr} {m : M Bool} : (∀ s H C cl fp, DT (XX s H C cl fp) W0 c m) → DTs XX [c] m
theorem comp_core {J : It} {gg : TG} {tt : TT} {te : TE} {fp : List Nat} {g : MG} {mt : M Bool} {m : M D} {items : List D} {keep : Hs → Prop} {own : List Nat}
    (kg : ∀ v d σ H φ env hp env' hp', SR X.K H φ hp → Sls X.K H φ hp σ env → Rep X.K H φ hp v d → g d env hp = some (env', hp') → ∀ Q : L2.St → Hp → Prop,
      (∀ σ' H' φ', Ext H φ hp H' φ' hp' → SR X.K H' φ' hp' → Sls X.K H' φ' hp' σ' env' → (∀ j, j ∉ fp → σ'[j]? = σ[j]?) → σ'.length = σ.length → Q σ' H') → gg v σ H Q)
    (ktt : TTok X W0 tt mt) (kte : TEok X W0 te m) (hfp : ∀ j ∈ fp, j ∈ own)
    (s1 : SR X.K H1 φ1 hp1) (l1 : Sls X.K H1 φ1 hp1 σ env) (hJ : ItOk X.K H1 φ1 hp1 keep J items) (e2 : compL g mt m keep own items [] env hp1 = some (ds, hp'))
    (F : ∀ Hm φm, Ext H1 φ1 hp1 Hm φm hp' → SR X.K Hm φm hp' → ∀ A acc, Hm A = none → Reps X.K Hm φm hp' acc ds → Q (.ref A) (upd Hm A (.lst acc))) :
    ∀ A, H1 A = none → ∃ W : Nat → Nat → Hp → Prop, (∃ m, W 0 m (upd H1 A (.lst []))) ∧ ∀ i m H, W i m H →
      (J.stop i H ∧ Q (.ref A) H) ∨ (J.go i H ∧ ∃ Nx : Hp → Prop, (∀ H', Nx H' → ∃ m', m' < m ∧ W (i + 1) m' H') ∧ ∀ x H', J.yld i H x H' → gg x (L2.wipe σ own) H' fun σ2 H2 => L2.wipe σ2 own = L2.wipe σ own ∧ tt σ2 H2 fun b H3 =>
        if b = true then te σ2 H3 fun u H4 => ∃ acc, H4 A = some (.lst acc) ∧ acc.length < sizeLine ∧ Nx (upd H4 A (.lst (acc ++ [u]))) else Nx H3) := by
  intro A hA
  refine ⟨fun i n HH => ∃ Hm φm hp2 acc ads, n = items.length - i ∧ i ≤ items.length ∧ Ext H1 φ1 hp1 Hm φm hp2 ∧ SR X.K Hm φm hp2 ∧ Hm A = none ∧ HH = upd Hm A (.lst acc) ∧ Reps X.K Hm φm hp2 acc ads ∧
    compL g mt m keep own (items.drop i) ads env hp2 = some (ds, hp'), ⟨_, H1, φ1, hp1, [], [], rfl, Nat.zero_le _, Ext.refl, s1, hA, rfl, .nil, e2⟩, ?_⟩
  rintro i n HH ⟨Hm, φm, hp2, acc, ads, rfl, hi, y2, s2, h0, rfl, ra, h2⟩
  have sD : SR X.K (upd Hm A (.lst acc)) (zad φm A) hp2 := s2.zad fill_lst h0
  have xD : Sub Hm φm hp2 (upd Hm A (.lst acc)) (zad φm A) hp2 := Sub.zad s2 h0
  have yS : Sub H1 φ1 hp1 (upd Hm A (.lst acc)) (zad φm A) hp2 :=
    ⟨y2.len, y2.ph, fun a u e no => by
      have q := y2.kp a u e no
      rw [upd_ne (ne_of_none q h0)]; exact q, fun a o => by
      rcases own_zad.mp o with q | q
      · exact y2.fr a q
      · rw [q]; exact .inr hA, fun a z nt => by
      have ne : a ≠ A := fun e => by
        rcases s1.zs a z with ⟨us, q⟩ | ⟨us, q⟩ | ⟨us, q⟩ <;> (rw [e, hA] at q; cases q)
      rw [upd_ne ne]; exact y2.zk a z nt, y2.nl⟩
  have lD : Sls X.K (upd Hm A (.lst acc)) (zad φm A) hp2 σ env := ⟨l1.1, fun j d h => let ⟨v, e, r⟩ := l1.2 j d h; ⟨v, e, (r.mono s1 y2).monoS s2 xD⟩⟩
  cases hd : items[i]? with
  | none =>
    have hge : items.length ≤ i := List.getElem?_eq_none_iff.mp hd
    rw [List.drop_eq_nil_of_le hge] at h2
    unfold compL at h2
    split at h2
    · rename_i hk
      cases h2
      exact .inl ⟨(hJ i _ _ _ yS sD hk).2 (Nat.le_antisymm hi hge), F Hm φm y2 s2 A acc h0 ra⟩
    · cases h2
  | some x =>
    have hlt : i < items.length := (List.getElem?_eq_some_iff.mp hd).1
    have hx : items.drop i = x :: items.drop (i + 1) := by
      rw [List.drop_eq_getElem_cons hlt, (List.getElem?_eq_some_iff.mp hd).2]
    rw [hx] at h2
    unfold compL at h2
    split at h2
    · rename_i hk
      obtain ⟨hgo, hy⟩ := (hJ i _ _ _ yS sD hk).1 x hd
      split at h2
      · rename_i env1 hp3 e3
        refine .inr ⟨hgo, fun HH => ∃ Hm φm hp2 acc ads, Ext H1 φ1 hp1 Hm φm hp2 ∧ SR X.K Hm φm hp2 ∧ Hm A = none ∧ HH = upd Hm A (.lst acc) ∧ Reps X.K Hm φm hp2 acc ads ∧
          compL g mt m keep own (items.drop (i + 1)) ads env hp2 = some (ds, hp'), ?_, fun v H2' hy' => ?_⟩
        · rintro HH ⟨Hm, φm, hp2, acc, ads, a1, a2, a3, a4, a5, a6⟩
          exact ⟨_, by omega, Hm, φm, hp2, acc, ads, rfl, hlt, a1, a2, a3, a4, a5, a6⟩
        · obtain ⟨z1, z2, z3⟩ := hy v H2' hy'
          refine kg v x _ H2' (zad φm A) (wipeE env own) hp2 env1 hp3 z2 ((lD.mono sD z1).wipe _) z3 e3 _ fun σ3 H3 φ3 y3 s3 l3 q1 q2 => ?_
          refine ⟨wipe_eq (q2.trans (wipe_length _ _)) q1 hfp, ?_⟩
          have yy := z1.trans y3
          split at h2
          · rename_i hp4 e4
            refine ktt σ3 H3 φ3 env1 hp3 _ _ s3 l3 e4 _ fun H4 φ4 y4 s4 => ?_
            refine iteT ?_
            split at h2
            · rename_i d5 hp5 e5
              refine kte σ3 H4 φ4 env1 hp4 _ _ s4 (l3.mono s3 y4) e5 _ fun H5 φ5 y5 s5 => ?_
              dsimp only
              intro u ru
              split at h2
              · rename_i hlen
                obtain ⟨k, kv, xx⟩ := Ext.zdl fill_lst s2 h0 ((yy.trans y4).trans y5)
                refine ⟨acc, kv, by rw [ra.length]; exact hlen, del H5 A, ⟨φ5.f, φm.Z⟩, hp5, acc ++ [u], ads ++ [d5], y2.trans xx, s5.zdl k (Ext.zdh s2 h0 ((yy.trans y4).trans y5)), mdel_same, ?_, (ra.mono s2 xx).append (.one (ru.zdl k)), h2⟩
                funext b
                by_cases eb : b = A
                · subst eb; rw [upd_same, upd_same]
                · rw [upd_ne eb, upd_ne eb, mdel_ne eb]
              · cases h2
            · cases h2
          · rename_i hp4 e4
            refine ktt σ3 H3 φ3 env1 hp3 _ _ s3 l3 e4 _ fun H4 φ4 y4 s4 => ?_
            refine iteF ?_
            obtain ⟨k, kv, xx⟩ := Ext.zdl fill_lst s2 h0 (yy.trans y4)
            exact ⟨del H4 A, ⟨φ4.f, φm.Z⟩, hp4, acc, ads, y2.trans xx, s4.zdl k (Ext.zdh s2 h0 (yy.trans y4)), mdel_same, (upd_del kv).symm, ra.mono s2 xx, h2⟩
          · cases h2
      · cases h2
    · cases h2
theorem comp_parts {elt tg iter : Expr} {ifs : List Expr} {scope : Scope} {own : List (Str × Nat)} {fp : List Nat} {pos : Pos} {w : M Src} {g : MG} {mt : M Bool} {m : M D} (hc : X.calm = true) (hN : X.N.Nodup) (hi : DI X W tg iter w) (ok : BlkOk X.N X.env.scope scope own)
    (hfp : ∀ j ∈ fp, j ∈ own.map (·.2))
    (hg : ∀ (s : Shared) (H : Hp) (C : Addr) (cl : List (Str × Addr)) (ad : List Addr), DG (X.blk s H scope (compEnvC scope cl C X.env) ad) fp tg g)
    (ht : DTs (fun s H C cl ad => X.blk s H scope (compEnvC scope cl C X.env) ad) ifs mt)
    (he : ∀ (s : Shared) (H : Hp) (C : Addr) (cl : List (Str × Addr)) (ad : List Addr), DE (X.blk s H scope (compEnvC scope cl C X.env) ad) W0 elt m) :
    ∃ (wi : TI) (gg : TG) (tt : TT) (te : TE), PI X tg iter wi ∧ (∀ (s : Shared) (H : Hp) (C : Addr) (cl : List (Str × Addr)) (ad : List Addr), PG (X.blk s H scope (compEnvC scope cl C X.env) ad) tg gg) ∧
      (∀ (s : Shared) (H : Hp) (C : Addr) (cl : List (Str × Addr)) (ad : List Addr), PTs (X.blk s H scope (compEnvC scope cl C X.env) ad) ifs tt) ∧ (∀ (s : Shared) (H : Hp) (C : Addr) (cl : List (Str × Addr)) (ad : List Addr), PE (X.blk s H scope (compEnvC scope cl C X.env) ad) elt te) ∧
      TNok X W (tLc wi gg tt te (own.map (·.2))) (mComp w g mt m (own.map (·.2))) := by
  obtain ⟨wi, pi, ki⟩ := hi
  have pt : ∃ tt : TT, (∀ s H C cl ad, PTs (X.blk s H scope (compEnvC scope cl C X.env) ad) ifs tt) ∧ TTok X W0 tt mt := by
    cases ht with
    | nil => exact ⟨tYes, fun _ _ _ _ _ => pts_nil, fun σ H φ env hp o hp' s l h Q F => by cases h; exact F H φ Ext.refl s⟩
    | one h => exact ⟨ttM X W0 mt, fun s H C cl ad => pts_one (pt_canon (h s H C cl ad)), fun σ H φ env hp o hp' s l h Q F => ⟨φ, env, hp, o, hp', s, l, h, F⟩⟩
  obtain ⟨tt, ptt, ktt⟩ := pt
  refine ⟨wi, tgM X fp g, tt, tM X W0 m, pi, fun s H C cl ad => pg_canon (hg s H C cl ad), ptt, fun s H C cl ad => pe_canon (he s H C cl ad), fun σ H φ env hp o hp' s l h Q F => ?_⟩
  unfold mComp at h
  split at h
  · rename_i src hp1 e1
    split at h
    · rename_i ds hp2 e2
      cases h
      refine ki σ H φ env hp _ _ s l e1 _ fun H1 φ1 y1 s1 J hJ => ?_
      exact comp_core (fun v d σ H φ env hp env' hp' s l r h Q F => ⟨d, φ, env, hp, env', hp', s, l, r, h, F⟩) ktt (fun σ H φ env hp o hp' s l h Q F => ⟨φ, env, hp, o, hp', s, l, h, F⟩) hfp s1 (l.mono s y1) hJ e2 fun Hm φm y2 s2 A acc h0 ra => F Hm φm (y1.trans y2) s2 A acc h0 ra
    · cases h
  · rename_i c d hp1 e1
    cases h
    exact ki σ H φ env hp _ _ s l e1 _ fun H1 φ1 y1 s1 => F H1 φ1 y1 s1
  · cases h
theorem dn_comp {elt tg iter : Expr} {ifs : List Expr} {scope : Scope} {own : List (Str × Nat)} {fp : List Nat} {pos : Pos} {w : M Src} {g : MG} {mt : M Bool} {m : M D} (hc : X.calm = true) (hN : X.N.Nodup) (hi : DI X W tg iter w) (ok : BlkOk X.N X.env.scope scope own)
    (hfp : ∀ j ∈ fp, j ∈ own.map (·.2))
    (hg : ∀ (s : Shared) (H : Hp) (C : Addr) (cl : List (Str × Addr)) (ad : List Addr), DG (X.blk s H scope (compEnvC scope cl C X.env) ad) fp tg g)
    (ht : DTs (fun s H C cl ad => X.blk s H scope (compEnvC scope cl C X.env) ad) ifs mt)
    (he : ∀ (s : Shared) (H : Hp) (C : Addr) (cl : List (Str × Addr)) (ad : List Addr), DE (X.blk s H scope (compEnvC scope cl C X.env) ad) W0 elt m) (hs : ∀ x, foldedSetIterable iter X.env x = pure x := by intro _; rfl) :
    DN X W (.ListComp elt [⟨tg, iter, ifs, 0⟩] scope pos) (mComp w g mt m (own.map (·.2))) := by
  obtain ⟨wi, gg, tt, te, p1, p2, p3, p4, k⟩ := comp_parts (pos := pos) hc hN hi ok hfp hg ht he
  exact ⟨_, pe_lc hc hN p1 ok p2 p3 p4 hs, k⟩
end
end Mi
-- MirI
set_option Elab.async false
set_option linter.all false
set_option maxRecDepth 100000
set_option maxHeartbeats 4000000
/-! enumerate and zip over lists and tuples in any mixture, as walks of the layer -/
namespace Mi
open PySem L2 PyProof.Rows PySem.Spec
inductive Sk where
  | l | t
namespace Sk
def at_ (k : Sk) (K : PySem.W.Frag) (H : Hp) (a : Addr) (xs : List V) : Prop := match k with | .l => SqL K H a xs | .t => SqT K H a xs
def itr (k : Sk) (h : Heap) (it a : Addr) (i : Nat) : Prop := match k with | .l => h.IsListIter it a i | .t => h.IsTupleIter it a i
def hd (k : Sk) (h : Heap) (a : Addr) (its : Array Value) : Prop := match k with | .l => h.IsList a its | .t => h.IsTuple a its
def ob (k : Sk) (a : Addr) : Obj := match k with | .l => { cls := .type "list_iterator", data := .fields #[.ref a, .int 0 0] } | .t => { cls := .type "tuple_iterator", data := .fields #[.ref a, .int 0 0] }
section
variable {k : Sk} {X : Cx} {pins : List (Addr × Obj)} {σ : L2.St} {H : Hp} {s : Shared} {a it : Addr} {xs ys : List V} {h h' : Heap} {i : Nat}
theorem of_inv (I : Inv X pins σ H s) (q : k.at_ X.K H a xs) : ∃ its : List Value, Vals xs its ∧ k.hd s.heap a its.toArray ∧ a < s.heap.objs.size := by
  cases k with
  | l =>
    obtain ⟨its, r, p, _⟩ := I.list q
    exact ⟨its, r, p.isList, p.lt⟩
  | t =>
    obtain ⟨its, r, p, _⟩ := I.tuple q
    exact ⟨its, r, p, p.lt⟩
theorem inj (I : Inv X pins σ H s) (q : k.at_ X.K H a xs) (q' : k.at_ X.K H a ys) : xs = ys := by
  cases k with
  | l => exact I.list_inj q q'
  | t => exact I.tuple_inj q q'
theorem draws {prog : Program} {w : World} {A : Around} (hh : A.handled = none) (hne : a ≠ it) (items : Array Value) :
    Draws prog w A it [it, a] items.size (fun i v => items[i]? = some v) (fun i h => k.itr h it a i ∧ k.hd h a items) := by
  cases k with
  | l => exact Draws.list hh it a hne items
  | t => exact Draws.tuple hh it a hne items
theorem begins (items : Array Value) : Begins (.ref a) (k.ob a) (fun h => k.hd h a items) := by
  cases k with
  | l => exact begins_list a items
  | t => exact begins_tuple a items
theorem itr_obj (q : k.itr h it a i) : ∃ o, h.get? it = some o ∧ ∀ v, o.data ≠ .cell v := by
  cases k with
  | l => obtain ⟨o, e, _, d⟩ := q; exact ⟨o, e, fun v z => by rw [d] at z; cases z⟩
  | t => obtain ⟨o, e, _, d⟩ := q; exact ⟨o, e, fun v z => by rw [d] at z; cases z⟩
theorem itr_at (q : k.itr h it a i) (f : ∀ o, h.get? it = some o → h'.get? it = some o) : k.itr h' it a i := by
  cases k with
  | l => obtain ⟨o, e, r⟩ := q; exact ⟨o, f o e, r⟩
  | t => obtain ⟨o, e, r⟩ := q; exact ⟨o, f o e, r⟩
theorem itr0 (q : h.get? it = some (k.ob a)) : k.itr h it a 0 := by
  cases k with
  | l => exact ⟨_, q, rfl, rfl⟩
  | t => exact ⟨_, q, rfl, rfl⟩
theorem free (k : Sk) (a : Addr) : (k.ob a).isFreed = false := by cases k <;> rfl
end
end Sk
/-! ### enumerate -/
def Itn (k : Sk) (K : PySem.W.Frag) (a : Addr) (k0 : Int) : It :=
  ⟨fun i H => ∃ (xs : List V) (x : V), k.at_ K H a xs ∧ xs[i]? = some x,
    fun i H v H' => ∃ T x, v = .ref T ∧ H T = none ∧ H' = upd H T (.tup [.int (k0 + (i : Int)), x]) ∧ ∀ xs, k.at_ K H a xs → xs[i]? = some x,
    fun i H => ∃ xs : List V, k.at_ K H a xs ∧ i = xs.length⟩
theorem turn_enumK {P : Program} {w : World} {K : PySem.W.Frag} {elts : List Expr} {kk : Nat} {tpos : Pos} (k : Sk) (a e it : Addr) (k0 : Int) (h1 : e ≠ it) (h2 : a ≠ it) (h3 : e ≠ a) :
    Turn P w K (.Tuple elts kk tpos) (Itn k K a k0) [e, it] e (fun i h => (∃ old, IsEnum h e it (k0 + (i : Int)) old) ∧ k.itr h it a i) where
  mem := by simp
  obj := fun i h st b hb => by
    obtain ⟨⟨old, he⟩, hi⟩ := st
    have e' : b = e ∨ b = it := by simpa using hb
    rcases e' with z | z
    · rw [z]; exact ⟨_, he, fun v q => nomatch q⟩
    · rw [z]; exact Sk.itr_obj hi
  keep := fun i h h' st kp => let ⟨⟨old, he⟩, hi⟩ := st; ⟨⟨old, kp e (by simp) _ he⟩, Sk.itr_at hi fun o q => kp it (by simp) o q⟩
  item := by
    intro X hP hw hK hc i pins s σ H E I hf st hg
    subst hP hw hK
    obtain ⟨⟨old, he⟩, hit⟩ := st
    obtain ⟨xs, x, hq, hx⟩ := hg
    obtain ⟨its, rv, p, hlt⟩ := Sk.of_inv I hq
    obtain ⟨u, hu, ru⟩ := rv.get hx
    have hu' : its.toArray[i]? = some u := by simpa using hu
    have hh : X.A.in1.handled = none := I.ok.hd hc
    have hlti : i < its.toArray.size := (Array.getElem?_eq_some_iff.mp hu').1
    refine wpAny_mono ((GoesN.enumFrom k0 (Sk.draws (k := k) (prog := X.prog) (w := X.w) hh h2 its.toArray) e h1 (by simp [h1, h3]) (by simp)).goes i s
      (fun v s2 => ∃ x H', Inv X pins σ H' s2 ∧ RelV x v ∧ (Itn k X.K a k0).yld i H x H' ∧ ((∃ old, IsEnum s2.heap e it (k0 + ((i + 1 : Nat) : Int)) old) ∧ k.itr s2.heap it a (i + 1)) ∧ ∀ b ∈ [e, it], H' b = none) E hlti ⟨⟨old, he⟩, hit, p⟩ fun v h' tk hY st' hk htk => ?_) (fun r s1 ⟨v, e, q⟩ => ⟨v, e, q⟩) fun _ _ z => z
    obtain ⟨T, t, y, rfl, hT, hy, hTup⟩ := hY
    rw [hu'] at hy
    cases hy
    have hTn : H T = none := I.hok.fresh hT
    have new : ObjOk X.prog X.w (upd H T (.tup [.int (k0 + (i : Int)), x])) h' T (.tup [.int (k0 + (i : Int)), x]) :=
      ⟨by show 2 ≤ sizeLine; decide, [.int (k0 + (i : Int)) t, u], .cons ⟨_, rfl⟩ (.cons ru .nil), hTup⟩
    refine ⟨.ref T, _, I.turnedNew (ch := [e, it]) (fun b o hb q => hk b o hb q) hf hT new, rfl, ⟨T, x, rfl, hTn, rfl, fun ys hy => by rw [Sk.inj I hy hq]; exact hx⟩, ⟨st'.1, st'.2.1⟩, fun b hb => ?_⟩
    have hb' : ∃ o, s.heap.get? b = some o := by
      have e' : b = e ∨ b = it := by simpa using hb
      rcases e' with z | z
      · rw [z]; exact ⟨_, he⟩
      · rw [z]; obtain ⟨o, ho, _⟩ := Sk.itr_obj hit; exact ⟨o, ho⟩
    obtain ⟨o, ho⟩ := hb'
    have ne : b ≠ T := Nat.ne_of_lt (Nat.lt_of_lt_of_le (Heap.lt_size ho) hT)
    rw [upd_ne ne]
    exact (hf b hb).1
  done := by
    intro X hP hw hK hc i pins s σ H E I hf st hg
    subst hP hw hK
    obtain ⟨⟨old, he⟩, hit⟩ := st
    obtain ⟨xs, hq, hx⟩ := hg
    obtain ⟨its, rv, p, hlt⟩ := Sk.of_inv I hq
    have hh : X.A.in1.handled = none := I.ok.hd hc
    have hl : i = its.toArray.size := by rw [hx, rv.length]; simp
    subst hl
    exact wpAny_mono ((GoesN.enumFrom k0 (Sk.draws (k := k) (prog := X.prog) (w := X.w) hh h2 its.toArray) (elts := elts) (x1 := kk) (pos := tpos) e h1 (by simp [h1, h3]) (by simp)).stops s (fun s1 => Inv X pins σ H s1) E ⟨⟨old, he⟩, hit, p⟩
      fun h' tk hk htk => I.turnedL (ch := [e, it]) (fun b o hb q => hk b o hb q) hf) (fun r s1 q => q) fun _ _ z => z
  self := fun A i s Q E st h => let ⟨⟨_, he⟩, _⟩ := st; wpAny_pyIter_enum he h
theorem meets_enumerate_new1 {v : Value} {o : Obj} {H : Heap → Prop} (B : Begins v o H) :
    Meets (Builtin.«enumerate.__new__» ⟨[.type "enumerate", v], []⟩) (fun _ R s => H s.heap ∧
      R (.ok (.ret (.ref (s.heap.push o).objs.size))) { s with heap := (s.heap.push o).push { cls := .type "enumerate", data := .fields #[.none, .bool false, .ref s.heap.objs.size, rawInt 0, .none, .none] } }) :=
  .of_wp fun prog w A R s h => by
    obtain ⟨hp, g, d, tk, os⟩ := s; obtain ⟨h1, h⟩ := h
    have hsub := sub_enumerate
    have q1 : ∀ {A' : Around} {E : Value → Shared → Prop} {Q : Value → Shared → Prop}, Q (.ref hp.objs.size) ⟨hp.push o, g, d, tk, os⟩ → wpAny (model prog w) A' (pyIter v) Q E ⟨hp, g, d, tk, os⟩ :=
      fun q => B.iter prog w _ _ ⟨hp, g, d, tk, os⟩ _ h1 q
    wp_walk using q1
    refine wpAny_stack_any fun st => wpAny_pure ?_
    split
    · rename_i c _ _ _ _ _
      cases (c == Value.type "enumerate")
      · wp_walk using q1
        exact ⟨_, rfl, h⟩
      · wp_walk using q1
        exact ⟨_, rfl, h⟩
    · wp_walk using q1
      exact ⟨_, rfl, h⟩
theorem enum_begins1 {prog : Program} {w : World} {A : Around} {E : Value → Shared → Prop} {s : Shared} {v : Value} {o : Obj} {H : Heap → Prop} {Q : Value → Shared → Prop} (B : Begins v o H) (h1 : H s.heap)
    (h : ∀ h', IsEnum h' (s.heap.objs.size + 1) s.heap.objs.size 0 .none → h'.get? s.heap.objs.size = some o → h'.objs.size = s.heap.objs.size + 2 →
      (∀ b o, s.heap.get? b = some o → h'.get? b = some o) → Q (.ref (s.heap.objs.size + 1)) { s with heap := h' }) :
    wpAny (model prog w) A (call (.type "enumerate") [v]) Q E s := by
  refine callType_new F.called_enumerate (by decide) (F.typeCall_enumerate_1 _) (F.newCall_enumerate_1 _) (fun obj => F.args_object_init_2 obj _) F.entry_enumerate_new
    (meets_enumerate_new1 B) ⟨h1, ?_⟩
  have hz : (s.heap.push o).objs.size = s.heap.objs.size + 1 := Heap.size_push ..
  show _ ∧ _
  rw [hz]
  have he : IsEnum ((s.heap.push o).push { cls := .type "enumerate", data := .fields #[.none, .bool false, .ref s.heap.objs.size, rawInt 0, .none, .none] }) (s.heap.objs.size + 1) s.heap.objs.size 0 .none := by
    have := Heap.get?_push_size (s.heap.push o) (o := { cls := .type "enumerate", data := .fields #[.none, .bool false, .ref s.heap.objs.size, rawInt 0, .none, .none] }) rfl
    rw [hz] at this; exact this
  refine ⟨⟨_, he, rfl⟩, h _ he (Heap.get?_push_of_some _ (Heap.get?_push_size _ B.free)) (by rw [Heap.size_push, hz]) fun b o x => Heap.get?_push_of_some _ (Heap.get?_push_of_some _ x)⟩
/-- enumerate(v), enumerate(v, k) -/
def iEnK (K : PySem.W.Frag) (ta : TA) : TI := fun σ H R => ta σ H fun vs H1 => ∃ k a xs, vs = [.ref a] ∧ Sk.at_ k K H1 a xs ∧ R (Itn k K a 0) H1
section
variable {X : Cx} {e e2 e3 : Expr} {ta : TA} {p pos tpos : Pos} {elts : List Expr} {kk : Nat}
theorem pie_enum {k : Sk} {pins : List (Addr × Obj)} {σ : L2.St} {H1 : Hp} {s1 : Shared} {a : Addr} {xs : List V} {k0 : Int} {R : It → Hp → Prop} (I1 : Inv X pins σ H1 s1) (hq : k.at_ X.K H1 a xs) (hlt : a < s1.heap.objs.size) (q : R (Itn k X.K a k0) H1) {h' : Heap}
    (he : IsEnum h' (s1.heap.objs.size + 1) s1.heap.objs.size k0 .none) (hit : h'.get? s1.heap.objs.size = some (k.ob a)) (hk : ∀ b o, s1.heap.get? b = some o → h'.get? b = some o) :
    PIE X pins σ (.Tuple elts kk tpos) R (.ref (s1.heap.objs.size + 1)) { s1 with heap := h' } := by
  have I2 : Inv X pins σ H1 { s1 with heap := h' } := I1.kept (t' := s1.toks) hk
  refine ⟨s1.heap.objs.size + 1, [s1.heap.objs.size + 1, s1.heap.objs.size], _, _, H1, rfl, I2, turn_enumK k a (s1.heap.objs.size + 1) s1.heap.objs.size k0 (Nat.succ_ne_self _) (Nat.ne_of_lt hlt) (Nat.ne_of_gt (Nat.lt_succ_of_lt hlt)), ⟨⟨.none, by simpa using he⟩, Sk.itr0 hit⟩, fun b hb => ?_, q⟩
  have e' : b = s1.heap.objs.size + 1 ∨ b = s1.heap.objs.size := by simpa using hb
  have hle : s1.heap.objs.size ≤ b := by
    rcases e' with z | z
    · rw [z]; exact Nat.le_add_right _ _
    · rw [z]; exact Nat.le_refl _
  exact I1.fpOk hle (I1.hok.fresh hle)
theorem pi_enumK (hg : Gl X "enumerate") (hm : X.mg "enumerate" = none) (ha : PA X [e] ta) (hs : starEach [e] X.env = [(false, eval e X.env)] := by rfl) :
    PI X (.Tuple elts kk tpos) (.Call (.Name "enumerate" p) [e] [] pos) (iEnK X.K ta) := by
  refine ⟨fun pins s σ H R I h => ?_⟩
  refine Call_ (ld_blt I hg hm boot_enumerate (PyProof.Rows.callWith_type1 (thn (ha.run pos pins s σ H _ I h) fun us s1 ⟨vs, H1, I1, r1, q1⟩ => ?_) hs rfl))
  obtain ⟨k, a, xs, ex, hq, q⟩ := q1
  subst ex
  cases r1 with
  | cons r rr =>
    cases rr
    cases r
    obtain ⟨its, rv, p', hlt⟩ := Sk.of_inv I1 hq
    exact enum_begins1 (Sk.begins (k := k) its.toArray) p' fun h' he hit hsz hk => wpAny_pyIter_enum he (pie_enum I1 hq hlt q he hit hk)
end
/-! ### zip of two -/
def Itz2 (k1 k2 : Sk) (K : PySem.W.Frag) (a b : Addr) : It :=
  ⟨fun i H => ∃ (xs ys : List V) (x y : V), k1.at_ K H a xs ∧ k2.at_ K H b ys ∧ xs[i]? = some x ∧ ys[i]? = some y,
    fun i H v H' => ∃ T x y, v = .ref T ∧ H T = none ∧ H' = upd H T (.tup [x, y]) ∧ (∀ xs, k1.at_ K H a xs → xs[i]? = some x) ∧ ∀ ys, k2.at_ K H b ys → ys[i]? = some y,
    fun i H => ∃ xs ys : List V, k1.at_ K H a xs ∧ k2.at_ K H b ys ∧ i = min xs.length ys.length⟩
theorem turn_zipK {P : Program} {w : World} {K : PySem.W.Frag} {elts : List Expr} {kk : Nat} {tpos : Pos} {k1 k2 : Sk} {a b z TI TO i1 i2 : Addr} (S : ZipSep2 z TI TO i1 i2 [i1, a] [i2, b]) (n1 : a ≠ i1) (n2 : b ≠ i2) :
    Turn P w K (.Tuple elts kk tpos) (Itz2 k1 k2 K a b) [z, TI, TO, i1, i2] z (fun i h => IsZip h z TI TO .none ∧ IsTupOf2 h TI (.ref i1) (.ref i2) ∧ (∃ x y, IsTupOf2 h TO x y) ∧ k1.itr h i1 a i ∧ k2.itr h i2 b i) where
  mem := by simp
  obj := fun i h st c hc => by
    obtain ⟨hz, hTI, ⟨x, y, hTO⟩, h1, h2⟩ := st
    have e' : c = z ∨ c = TI ∨ c = TO ∨ c = i1 ∨ c = i2 := by simpa using hc
    rcases e' with q | q | q | q | q
    · rw [q]; exact ⟨_, hz, fun v q => nomatch q⟩
    · rw [q]; exact ⟨_, hTI, fun v q => nomatch q⟩
    · rw [q]; exact ⟨_, hTO, fun v q => nomatch q⟩
    · rw [q]; exact Sk.itr_obj h1
    · rw [q]; exact Sk.itr_obj h2
  keep := fun i h h' st k => by
    obtain ⟨hz, hTI, ⟨x, y, hTO⟩, h1, h2⟩ := st
    exact ⟨k z (by simp) _ hz, k TI (by simp) _ hTI, ⟨x, y, k TO (by simp) _ hTO⟩, Sk.itr_at h1 fun o q => k i1 (by simp) o q, Sk.itr_at h2 fun o q => k i2 (by simp) o q⟩
  item := by
    intro X hP hw hK hc i pins s σ H E I hf st hg
    subst hP hw hK
    obtain ⟨hz, hTI, ⟨x0, y0, hTO⟩, h1, h2⟩ := st
    obtain ⟨xs, ys, x, y, hqx, hqy, hx, hy⟩ := hg
    obtain ⟨its, rv, p, _⟩ := Sk.of_inv I hqx
    obtain ⟨its2, rv2, p2, _⟩ := Sk.of_inv I hqy
    obtain ⟨u, hu, ru⟩ := rv.get hx
    obtain ⟨u2, hu2, ru2⟩ := rv2.get hy
    have hu' : its.toArray[i]? = some u := by simpa using hu
    have hu2' : its2.toArray[i]? = some u2 := by simpa using hu2
    have hh : X.A.in1.handled = none := I.ok.hd hc
    have hl1 : i < its.toArray.size := (Array.getElem?_eq_some_iff.mp hu').1
    have hl2 : i < its2.toArray.size := (Array.getElem?_eq_some_iff.mp hu2').1
    have sub : ∀ c, c ∈ [z, TO, i1, i2] → c ∈ [z, TI, TO, i1, i2] := fun c q => by
      have e' : c = z ∨ c = TO ∨ c = i1 ∨ c = i2 := by simpa using q
      rcases e' with q | q | q | q <;> simp [q]
    refine wpAny_mono ((GoesN.zip2 S (Sk.draws (k := k1) (prog := X.prog) (w := X.w) hh n1 its.toArray) (Sk.draws (k := k2) (prog := X.prog) (w := X.w) hh n2 its2.toArray)).goes i s
      (fun v s2 => ∃ x H', Inv X pins σ H' s2 ∧ RelV x v ∧ (Itz2 k1 k2 X.K a b).yld i H x H' ∧ (IsZip s2.heap z TI TO .none ∧ IsTupOf2 s2.heap TI (.ref i1) (.ref i2) ∧ (∃ x y, IsTupOf2 s2.heap TO x y) ∧ k1.itr s2.heap i1 a (i + 1) ∧ k2.itr s2.heap i2 b (i + 1)) ∧ ∀ c ∈ [z, TI, TO, i1, i2], H' c = none) E
      (Nat.lt_min.mpr ⟨hl1, hl2⟩) ⟨hz, hTI, ⟨_, _, hTO⟩, ⟨h1, p⟩, ⟨h2, p2⟩⟩ fun v h' tk hY st' hk htk => ?_) (fun r s1 ⟨v, e, q⟩ => ⟨v, e, q⟩) fun _ _ z => z
    obtain ⟨T, v1, v2, rfl, hT, e1, e2, hTup⟩ := hY
    rw [hu'] at e1; cases e1
    rw [hu2'] at e2; cases e2
    have hTn : H T = none := I.hok.fresh hT
    have new : ObjOk X.prog X.w (upd H T (.tup [x, y])) h' T (.tup [x, y]) := ⟨by show 2 ≤ sizeLine; decide, [u, u2], .cons ru (.cons ru2 .nil), hTup⟩
    refine ⟨.ref T, _, I.turnedNew (ch := [z, TO, i1, i2]) (fun b o hb q => hk b o hb q) (fun c q => hf c (sub c q)) hT new, rfl,
      ⟨T, x, y, rfl, hTn, rfl, fun ys hy => by rw [Sk.inj I hy hqx]; exact hx, fun ys hy' => by rw [Sk.inj I hy' hqy]; exact hy⟩, ⟨st'.1, st'.2.1, st'.2.2.1, st'.2.2.2.1.1, st'.2.2.2.2.1⟩, fun c hc => ?_⟩
    have hc' : ∃ o, s.heap.get? c = some o := by
      have e' : c = z ∨ c = TI ∨ c = TO ∨ c = i1 ∨ c = i2 := by simpa using hc
      rcases e' with q | q | q | q | q
      · rw [q]; exact ⟨_, hz⟩
      · rw [q]; exact ⟨_, hTI⟩
      · rw [q]; exact ⟨_, hTO⟩
      · rw [q]; obtain ⟨o, ho, _⟩ := Sk.itr_obj h1; exact ⟨o, ho⟩
      · rw [q]; obtain ⟨o, ho, _⟩ := Sk.itr_obj h2; exact ⟨o, ho⟩
    obtain ⟨o, ho⟩ := hc'
    have ne : c ≠ T := Nat.ne_of_lt (Nat.lt_of_lt_of_le (Heap.lt_size ho) hT)
    rw [upd_ne ne]
    exact (hf c hc).1
  done := by
    intro X hP hw hK hc i pins s σ H E I hf st hg
    subst hP hw hK
    obtain ⟨hz, hTI, ⟨x0, y0, hTO⟩, h1, h2⟩ := st
    obtain ⟨xs, ys, hqx, hqy, hi⟩ := hg
    obtain ⟨its, rv, p, _⟩ := Sk.of_inv I hqx
    obtain ⟨its2, rv2, p2, _⟩ := Sk.of_inv I hqy
    have hh : X.A.in1.handled = none := I.ok.hd hc
    have hl : i = min its.toArray.size its2.toArray.size := by rw [hi, rv.length, rv2.length]; simp
    subst hl
    have sub : ∀ c, c ∈ [z, TO, i1, i2] → c ∈ [z, TI, TO, i1, i2] := fun c q => by
      have e' : c = z ∨ c = TO ∨ c = i1 ∨ c = i2 := by simpa using q
      rcases e' with q | q | q | q <;> simp [q]
    exact wpAny_mono ((GoesN.zip2 (elts := elts) (x1 := kk) (pos := tpos) S (Sk.draws (k := k1) (prog := X.prog) (w := X.w) hh n1 its.toArray) (Sk.draws (k := k2) (prog := X.prog) (w := X.w) hh n2 its2.toArray)).stops s (fun s1 => Inv X pins σ H s1) E ⟨hz, hTI, ⟨_, _, hTO⟩, ⟨h1, p⟩, ⟨h2, p2⟩⟩
      fun h' tk hk htk => I.turnedL (ch := [z, TO, i1, i2]) (fun b o hb q => hk b o hb q) (fun c q => hf c (sub c q))) (fun r s1 q => q) fun _ _ z => z
  self := fun A i s Q E st h => wpAny_pyIter_zip st.1 h
def iZipK (K : PySem.W.Frag) (ta : TA) : TI := fun σ H R => ta σ H fun vs H1 => ∃ k1 k2 a b xs ys, vs = [.ref a, .ref b] ∧ Sk.at_ k1 K H1 a xs ∧ Sk.at_ k2 K H1 b ys ∧ R (Itz2 k1 k2 K a b) H1
section
variable {X : Cx} {e e2 e3 : Expr} {ta : TA} {p pos tpos : Pos} {elts : List Expr} {kk : Nat}
theorem pi_zipK (hg : Gl X "zip") (hm : X.mg "zip" = none) (ha : PA X [e, e2] ta)
    (hs : starEach [e, e2] X.env = (false, eval e X.env) :: starEach [e2] X.env := by rfl) (hpl : (backTo pos (starEach [e2] X.env)).any (·.1) = false := by rfl) :
    PI X (.Tuple elts kk tpos) (.Call (.Name "zip" p) [e, e2] [] pos) (iZipK X.K ta) := by
  refine ⟨fun pins s σ H R I h => ?_⟩
  refine Call_ (ld_blt I hg hm PyProof.Rows.boot_zip (PyProof.Rows.callWith_type1 (thn (ha.run pos pins s σ H _ I h) fun us s1 ⟨vs, H1, I1, r1, q1⟩ => ?_) hs hpl))
  obtain ⟨k1, k2, a, b, xs, ys, ex, hqx, hqy, q⟩ := q1
  subst ex
  cases r1 with
  | cons r rr =>
    cases rr with
    | cons r' rr =>
      cases rr
      cases r
      cases r'
      obtain ⟨its, rv, p1, l1⟩ := Sk.of_inv I1 hqx
      obtain ⟨its2, rv2, p2, l2⟩ := Sk.of_inv I1 hqy
      refine zip_begins2 (Sk.begins (k := k1) its.toArray) (Sk.begins (k := k2) its2.toArray) p1 p2 fun h' hz hTI hTO h1 h2 hsz hk => wpAny_pyIter_zip hz ?_
      have I2 : Inv X pins σ H1 { s1 with heap := h' } := I1.kept (t' := s1.toks) hk
      refine ⟨s1.heap.objs.size + 4, [s1.heap.objs.size + 4, s1.heap.objs.size + 2, s1.heap.objs.size + 3, s1.heap.objs.size, s1.heap.objs.size + 1], _, _, H1, rfl, I2,
        turn_zipK (k1 := k1) (k2 := k2) (zip_sep2 (fp1 := [a]) (fp2 := [b]) (by simpa using l1) (by simpa using l2)) (Nat.ne_of_lt l1) (Nat.ne_of_lt (Nat.lt_succ_of_lt l2)), ⟨hz, hTI, ⟨_, _, hTO⟩, Sk.itr0 h1, Sk.itr0 h2⟩, fun c hcm => ?_, q⟩
      have e' : c = s1.heap.objs.size + 4 ∨ c = s1.heap.objs.size + 2 ∨ c = s1.heap.objs.size + 3 ∨ c = s1.heap.objs.size ∨ c = s1.heap.objs.size + 1 := by simpa using hcm
      have hle : s1.heap.objs.size ≤ c := by
        rcases e' with z | z | z | z | z
        · rw [z]; exact Nat.le_add_right _ _
        · rw [z]; exact Nat.le_add_right _ _
        · rw [z]; exact Nat.le_add_right _ _
        · rw [z]; exact Nat.le_refl _
        · rw [z]; exact Nat.le_add_right _ _
      exact I1.fpOk hle (I1.hok.fresh hle)
end
/-! ### zip of three -/
end Mi
-- Mir6
set_option Elab.async false
set_option linter.all false
set_option maxRecDepth 100000
set_option maxHeartbeats 2000000
namespace Mi
open PySem L2 PyProof.Rows PySem.Spec
/-! ### what is walked -/
def keepOf (hp : Hs) (d : D) : Hs → Prop := match d with
  | .loc n => fun hp' => hp'[n]? = hp[n]?
  | _ => fun _ => True
@[simp] theorem keepOf_tup {hp xs} : keepOf hp (.tup xs) = fun _ => True := rfl
@[simp] theorem keepOf_itm {hp xs} : keepOf hp (.itm xs) = fun _ => True := rfl
@[simp] theorem keepOf_lst {hp xs} : keepOf hp (.lst xs) = fun _ => True := rfl
@[simp] theorem keepOf_frz {hp xs} : keepOf hp (.frz xs) = fun _ => True := rfl
@[simp] theorem keepOf_str {hp xs} : keepOf hp (.str xs) = fun _ => True := rfl
@[simp] theorem keepOf_loc {hp n} : keepOf hp (.loc n) = fun hp' => hp'[n]? = hp[n]? := rfl
section
variable {X : Cx} {W : WX} {K : PySem.W.Frag} {H H' H1 H2 : Hp} {φ φ' φ1 φ2 : Ph} {hp hp' hp1 hp2 : Hs} {v : V} {d : D} {vs : List V} {ds xs : List D} {p : Addr} {σ : L2.St} {env env' : Env} {Q : VK}
variable {a b c e e2 e3 tg : Expr} {es : List Expr} {ma mb mc : M D} {pos : Pos} {mas : M (List D)}
def kindOf (hp : Hs) (d : D) : Sk := match look hp d with
  | .tup _ => .t
  | _ => .l
theorem seq_stay (s : SR K H φ hp) (r : Rep K H φ hp v d) (e : seqv hp d = some xs) :
    ∃ (a : Addr), v = .ref a ∧ ∀ H' φ' hp', Sub H φ hp H' φ' hp' → SR K H' φ' hp' → keepOf hp d hp' → ∃ vs, (kindOf hp d).at_ K H' a vs ∧ Reps K H' φ' hp' vs xs := by
  cases d <;> simp only [seqv, look] at e <;> try (cases e; done)
  · cases e
    cases r with | tup h r => exact ⟨_, rfl, fun H' φ' hp' x s' _ => ⟨_, (ext_sqD s x h).sq, r.monoS s x⟩⟩
  · cases e
    cases r with | lst h no r => exact ⟨_, rfl, fun H' φ' hp' x s' _ => ⟨_, SqL.of (x.kp _ _ h no), r.monoS s x⟩⟩
  · cases e
    cases r with | frz h r => exact ⟨_, rfl, fun H' φ' hp' x s' _ => ⟨_, (ext_sqF s x h).sq, r.monoS s x⟩⟩
  · rename_i n
    cases r with
    | loc hn =>
      have h : hp[n]? = some (some (.lst xs)) := by
        cases h0 : hp[n]? with
        | none => rw [h0] at e; cases e
        | some o => cases o with
          | none => rw [h0] at e; cases e
          | some o => cases o <;> rw [h0] at e <;> cases e <;> rfl
      have hl : kindOf hp (.loc n) = .l := by simp [kindOf, look, h]
      refine ⟨_, rfl, fun H' φ' hp' x s' k => ?_⟩
      have h' : hp'[n]? = some (some (.lst xs)) := (show hp'[n]? = hp[n]? from k).trans h
      rw [hl]
      have q := s'.obs n _ h'
      rw [x.ph n hn] at q
      cases q with
      | lst q r => exact ⟨_, SqL.of q, r⟩
def mIter (a : M D) : M Src := bnd a fun d => fun _ hp => match look hp d with
  | .str z => some (.ok ⟨z.cps.toList.map fun c => .str ⟨#[c]⟩, fun _ => True⟩, hp)
  | _ => match seqv hp d with
    | some xs => some (.ok ⟨xs, keepOf hp d⟩, hp)
    | none => none
theorem _root_.L2.PI.or {X : Cx} {tg iter : Expr} {w w' : TI} (h : PI X tg iter w) (h' : PI X tg iter w') : PI X tg iter (fun σ H R => w σ H R ∨ w' σ H R) := by
  refine ⟨fun pins s σ H R I q => ?_⟩
  rcases q with q | q
  · exact h.run pins s σ H R I q
  · exact h'.run pins s σ H R I q
theorem it_lst {a : Addr} {k : Sk} (hk : ∀ H' φ' hp', Sub H φ hp H' φ' hp' → SR K H' φ' hp' → keepOf hp d hp' → ∃ vs, k.at_ K H' a vs ∧ Reps K H' φ' hp' vs xs) :
    match k with
    | .l => ItOk K H φ hp (keepOf hp d) (Itl K a) xs
    | .t => ItOk K H φ hp (keepOf hp d) (Itt K a) xs := by
  cases k with
  | l =>
    intro i H' φ' hp' x s' kp
    obtain ⟨vs, hq, r⟩ := hk H' φ' hp' x s' kp
    refine ⟨fun d e => ?_, fun e => ⟨vs, hq, by rw [e, r.length]; exact Nat.le_refl _⟩⟩
    obtain ⟨v, ev, rv⟩ := r.get e
    refine ⟨⟨vs, v, hq, ev⟩, fun y H2 hy => ?_⟩
    obtain ⟨rfl, hy⟩ := hy
    have := hy vs hq
    rw [ev] at this
    cases this
    exact ⟨Ext.refl, s', rv⟩
  | t =>
    intro i H' φ' hp' x s' kp
    obtain ⟨vs, hq, r⟩ := hk H' φ' hp' x s' kp
    refine ⟨fun d e => ?_, fun e => ⟨vs, hq, by rw [e, r.length]; exact Nat.le_refl _⟩⟩
    obtain ⟨v, ev, rv⟩ := r.get e
    refine ⟨⟨vs, v, hq, ev⟩, fun y H2 hy => ?_⟩
    obtain ⟨rfl, hy⟩ := hy
    have := hy vs hq
    rw [ev] at this
    cases this
    exact ⟨Ext.refl, s', rv⟩
theorem di_seq (ha : DE X W e ma) : DI X W tg e (mIter ma) := by
  obtain ⟨t, pt, k⟩ := ha
  refine ⟨_, (pi_list pt).or ((pi_tup pt).or (pi_str pt)), fun σ H φ env hp o hp' s l h R F => ?_⟩
  rcases bnd_ok h with ⟨d, hp1, e1, e2⟩ | ⟨c, d, e1, rfl⟩
  · have kp : keepOf hp1 d hp1 := by cases d <;> first | trivial | rfl
    by_cases hz : ∃ z, look hp1 d = .str z
    · obtain ⟨z, hl⟩ := hz
      rw [hl] at e2
      cases e2
      refine .inr (.inr (k σ H φ env hp _ _ s l e1 _ fun H1 φ1 y1 s1 => ?_))
      dsimp only
      intro v r
      obtain rfl := rep_str s1 r hl
      refine ⟨z, rfl, F H1 φ1 y1 s1 _ fun i H2 φ2 hp2 y2 s2 _ => ⟨fun d e => ?_, fun e => ?_⟩⟩
      · have e : (z.cps.toList.map fun c => D.str ⟨#[c]⟩)[i]? = some d := e
        rw [List.getElem?_map] at e
        cases ec : z.cps.toList[i]? with
        | none => rw [ec] at e; cases e
        | some c =>
          rw [ec] at e; cases e
          have ec' : z.cps[i]? = some c := by simpa using ec
          refine ⟨(Array.getElem?_eq_some_iff.mp ec').1, fun x H3 hy => ?_⟩
          obtain ⟨rfl, c2, hc, rfl⟩ := hy
          rw [ec'] at hc
          cases hc
          exact ⟨Ext.refl, s2, .str _⟩
      · have : i = z.cps.size := by rw [e]; simp
        exact Nat.le_of_eq this.symm
    · have e3 : (match seqv hp1 d with
        | some xs => some (Out.ok (Src.mk xs (keepOf hp1 d)), hp1)
        | none => none) = some (o, hp') := by
        cases hl : look hp1 d <;> rw [hl] at e2 <;> first | exact e2 | exact absurd ⟨_, hl⟩ hz
      split at e3
      · rename_i xs hs
        cases e3
        cases hk : kindOf hp' d with
        | l =>
          refine .inl (k σ H φ env hp _ _ s l e1 _ fun H1 φ1 y1 s1 => ?_)
          dsimp only
          intro v r
          obtain ⟨a, rfl, q⟩ := seq_stay s1 r hs
          rw [hk] at q
          obtain ⟨vs, hv, _⟩ := q H1 φ1 _ Ext.refl.toSub s1 kp
          exact ⟨a, rfl, ⟨vs, hv⟩, F H1 φ1 y1 s1 _ (it_lst (k := .l) q)⟩
        | t =>
          refine .inr (.inl (k σ H φ env hp _ _ s l e1 _ fun H1 φ1 y1 s1 => ?_))
          dsimp only
          intro v r
          obtain ⟨a, rfl, q⟩ := seq_stay s1 r hs
          rw [hk] at q
          obtain ⟨vs, hv, _⟩ := q H1 φ1 _ Ext.refl.toSub s1 kp
          exact ⟨a, rfl, ⟨vs, hv⟩, F H1 φ1 y1 s1 _ (it_lst (k := .t) q)⟩
      · cases e3
  · exact .inl (k σ H φ env hp _ _ s l e1 _ fun H1 φ1 y1 s1 => F H1 φ1 y1 s1)
theorem keep_self : keepOf hp d hp := by cases d <;> first | trivial | rfl
/-- range -/
def rngD (lo : Int) (n : Nat) : List D := (List.range n).map fun (i : Nat) => D.int (lo + (i : Int))
theorem rngD_get {lo : Int} {n i : Nat} {d : D} (h : (rngD lo n)[i]? = some d) : i < n ∧ d = .int (lo + (i : Int)) := by
  unfold rngD at h
  rw [List.getElem?_map] at h
  by_cases hi : i < n
  · rw [List.getElem?_range hi] at h; cases h; exact ⟨hi, rfl⟩
  · rw [List.getElem?_eq_none (by simpa using hi)] at h; cases h
theorem it_rng {lo : Int} {n : Nat} {kp : Hs → Prop} : ItOk K H φ hp kp (Itr lo n) (rngD lo n) := fun i H' φ' hp' x s' _ =>
  ⟨fun d e => by
    obtain ⟨h1, rfl⟩ := rngD_get e
    refine ⟨h1, fun y H2 hy => ?_⟩
    obtain ⟨rfl, rfl⟩ := hy
    exact ⟨Ext.refl, s', .int _⟩, fun e => by show n ≤ i; rw [e]; simp [rngD]⟩
def inI62 (j : Int) : Prop := -(2 ^ 62) ≤ j ∧ j < 2 ^ 62
instance : Decidable (inI62 j) := by unfold inI62; exact inferInstance
def mRange1 (as : M (List D)) : M Src := bnd as fun ds => fun _ hp => match ds with
  | [.int j] => if inI62 j then some (.ok ⟨rngD 0 j.toNat, fun _ => True⟩, hp) else none
  | _ => none
def mRange2 (as : M (List D)) : M Src := bnd as fun ds => fun _ hp => match ds with
  | [.int i, .int j] => if inI62 i ∧ inI62 j then some (.ok ⟨rngD i (j - i).toNat, fun _ => True⟩, hp) else none
  | _ => none
def FinI (X : Cx) (W : WX) (σ : L2.St) (H : Hp) (φ : Ph) (hp : Hs) (o : Out Src) (hp' : Hs) (R : It → Hp → Prop) : Prop :=
  ∀ H' φ', Ext H φ hp H' φ' hp' → SR X.K H' φ' hp' → match o with
    | .ok xs => ∀ J, ItOk X.K H' φ' hp' xs.keep J xs.items → R J H'
    | .ex c d => ∀ cls da, XRep X.K X.mg H' φ' hp' c d cls da → W cls da σ H'
theorem ta_stepI {t : TA} {m : M (List D)} {f : List D → M Src} {o : Out Src} (ok : TAok X W t m) (s : SR X.K H φ hp) (l : Sls X.K H φ hp σ env) (h : bnd m f env hp = some (o, hp')) {R : List V → Hp → Prop} {RI : It → Hp → Prop}
    (F : FinI X W σ H φ hp o hp' RI)
    (k : ∀ xs hp1 H1 φ1 vs, f xs env hp1 = some (o, hp') → SR X.K H1 φ1 hp1 → Reps X.K H1 φ1 hp1 vs xs → Ext H φ hp H1 φ1 hp1 → R vs H1) : t σ H R := by
  rcases bnd_ok h with ⟨x, hp1, e1, e2⟩ | ⟨c, d, e1, rfl⟩
  · exact ok σ H φ env hp _ _ s l e1 R fun H1 φ1 y s1 vs r => k x hp1 H1 φ1 vs e2 s1 r y
  · exact ok σ H φ env hp _ _ s l e1 R fun H1 φ1 y s1 => F H1 φ1 y s1
theorem di_range1 {q : Pos} (hg : Gl X "range") (hm : X.mg "range" = none) (ha : DA X W [e] mas) (hs : starEach [e] X.env = [(false, eval e X.env)] := by rfl) : DI X W tg (.Call (.Name "range" q) [e] [] pos) (mRange1 mas) := by
  obtain ⟨t, pt, k⟩ := ha
  refine ⟨_, pi_range1 hg hm pt hs, fun σ H φ env hp o hp' s l h R F => ?_⟩
  refine ta_stepI (RI := R) k s l h F fun ds hp1 H1 φ1 vs h1 s1 r1 y1 => ?_
  split at h1
  · rename_i j
    split at h1
    · rename_i hj
      cases h1
      cases r1 with | cons r rs => cases rs; cases r; exact ⟨j, rfl, hj.1, hj.2, F H1 φ1 y1 s1 _ it_rng⟩
    · cases h1
  · cases h1
/-- enumerate, zip -/
def enumD (k : Int) (xs : List D) : List D := xs.mapIdx fun (i : Nat) x => D.itm [.int (k + (i : Int)), x]
def zipD (xs ys : List D) : List D := List.zipWith (fun x y => D.itm [x, y]) xs ys
def mEnum1 (as : M (List D)) : M Src := bnd as fun ds => fun _ hp => match ds with
  | [d] => match seqv hp d with
    | some xs => some (.ok ⟨enumD 0 xs, keepOf hp d⟩, hp)
    | none => none
  | _ => none
def mZip (as : M (List D)) : M Src := bnd as fun ds => fun _ hp => match ds with
  | [d, d2] => match seqv hp d, seqv hp d2 with
    | some xs, some ys => some (.ok ⟨zipD xs ys, fun h => keepOf hp d h ∧ keepOf hp d2 h⟩, hp)
    | _, _ => none
  | _ => none
theorem it_enum {a : Addr} {k : Sk} {k0 : Int} (hk : ∀ H' φ' hp', Sub H φ hp H' φ' hp' → SR K H' φ' hp' → keepOf hp d hp' → ∃ vs, k.at_ K H' a vs ∧ Reps K H' φ' hp' vs xs) : ItOk K H φ hp (keepOf hp d) (Itn k K a k0) (enumD k0 xs) := fun i H' φ' hp' x s' kp => by
  obtain ⟨vs, hq, r⟩ := hk H' φ' hp' x s' kp
  refine ⟨fun d e => ?_, fun e => ⟨vs, hq, by rw [e, r.length]; simp [enumD]⟩⟩
  unfold enumD at e
  rw [List.getElem?_mapIdx] at e
  cases ex : xs[i]? with
  | none => rw [ex] at e; cases e
  | some z =>
    rw [ex] at e; cases e
    obtain ⟨v, ev, rv⟩ := r.get ex
    refine ⟨⟨vs, v, hq, ev⟩, fun y H2 hy => ?_⟩
    obtain ⟨T, w, rfl, hT, rfl, hw⟩ := hy
    have := hw vs hq
    rw [ev] at this
    cases this
    exact new_itm s' (.cons (.int _) (.cons rv .nil)) hT
theorem it_zip {a b : Addr} {k k2 : Sk} {ys : List D} {d2 : D} (hk : ∀ H' φ' hp', Sub H φ hp H' φ' hp' → SR K H' φ' hp' → keepOf hp d hp' → ∃ vs, k.at_ K H' a vs ∧ Reps K H' φ' hp' vs xs)
    (hk2 : ∀ H' φ' hp', Sub H φ hp H' φ' hp' → SR K H' φ' hp' → keepOf hp d2 hp' → ∃ vs, k2.at_ K H' b vs ∧ Reps K H' φ' hp' vs ys) : ItOk K H φ hp (fun h => keepOf hp d h ∧ keepOf hp d2 h) (Itz2 k k2 K a b) (zipD xs ys) := fun i H' φ' hp' x s' kp => by
  obtain ⟨vs, hq, r⟩ := hk H' φ' hp' x s' kp.1
  obtain ⟨us, hq2, r2⟩ := hk2 H' φ' hp' x s' kp.2
  refine ⟨fun d e => ?_, fun e => ⟨vs, us, hq, hq2, by rw [e, r.length, r2.length]; simp [zipD]⟩⟩
  unfold zipD at e
  rw [List.getElem?_zipWith] at e
  cases ex : xs[i]? with
  | none => rw [ex] at e; cases e
  | some z =>
    cases ey : ys[i]? with
    | none => rw [ex, ey] at e; cases e
    | some z2 =>
      rw [ex, ey] at e; cases e
      obtain ⟨v, ev, rv⟩ := r.get ex
      obtain ⟨v2, ev2, rv2⟩ := r2.get ey
      refine ⟨⟨vs, us, v, v2, hq, hq2, ev, ev2⟩, fun y H2 hy => ?_⟩
      obtain ⟨T, w, w2, rfl, hT, rfl, hw, hw2⟩ := hy
      have h1 := hw vs hq
      have h2 := hw2 us hq2
      rw [ev] at h1
      rw [ev2] at h2
      cases h1
      cases h2
      exact new_itm s' (.cons rv (.cons rv2 .nil)) hT
section
variable {elts : List Expr} {kk : Nat} {tpos q : Pos}
theorem di_enum1 (hg : Gl X "enumerate") (hm : X.mg "enumerate" = none) (ha : DA X W [e] mas) (hs : starEach [e] X.env = [(false, eval e X.env)] := by rfl) : DI X W (.Tuple elts kk tpos) (.Call (.Name "enumerate" q) [e] [] pos) (mEnum1 mas) := by
  obtain ⟨t, pt, k⟩ := ha
  refine ⟨_, pi_enumK hg hm pt hs, fun σ H φ env hp o hp' s l h R F => ?_⟩
  refine ta_stepI (RI := R) k s l h F fun ds hp1 H1 φ1 vs h1 s1 r1 y1 => ?_
  split at h1
  · split at h1
    · rename_i xs hs
      cases h1
      cases r1 with
      | cons r rs =>
        cases rs
        obtain ⟨a, rfl, q⟩ := seq_stay s1 r hs
        obtain ⟨vs, hv, _⟩ := q H1 φ1 _ Ext.refl.toSub s1 keep_self
        exact ⟨_, a, vs, rfl, hv, F H1 φ1 y1 s1 _ (it_enum q)⟩
    · cases h1
  · cases h1
theorem di_zip (hg : Gl X "zip") (hm : X.mg "zip" = none) (ha : DA X W [e, e2] mas) (hs : starEach [e, e2] X.env = (false, eval e X.env) :: starEach [e2] X.env := by rfl) (hpl : (backTo pos (starEach [e2] X.env)).any (·.1) = false := by rfl) : DI X W (.Tuple elts kk tpos) (.Call (.Name "zip" q) [e, e2] [] pos) (mZip mas) := by
  obtain ⟨t, pt, k⟩ := ha
  refine ⟨_, pi_zipK hg hm pt hs hpl, fun σ H φ env hp o hp' s l h R F => ?_⟩
  refine ta_stepI (RI := R) k s l h F fun ds hp1 H1 φ1 vs h1 s1 r1 y1 => ?_
  split at h1
  · split at h1
    · rename_i xs ys hs hs2
      cases h1
      cases r1 with
      | cons r rs =>
        cases rs with
        | cons r2 rs =>
          cases rs
          obtain ⟨a, rfl, q⟩ := seq_stay s1 r hs
          obtain ⟨vs, hv, _⟩ := q H1 φ1 _ Ext.refl.toSub s1 keep_self
          obtain ⟨b, rfl, q2⟩ := seq_stay s1 r2 hs2
          obtain ⟨us, hu, _⟩ := q2 H1 φ1 _ Ext.refl.toSub s1 keep_self
          exact ⟨_, _, a, b, vs, us, rfl, hv, hu, F H1 φ1 y1 s1 _ (it_zip q q2)⟩
    · cases h1
  · cases h1
end
end
end Mi
-- MirZ
set_option Elab.async false
set_option linter.all false
set_option maxRecDepth 100000
set_option maxHeartbeats 4000000
namespace Mi
open PySem L2 PyProof.Rows PySem.Spec
/-! ### enumerate over a zip: the zip's own tuple may be out -/
def ZipSt (h : Heap) (z TI TO : Addr) (v0 : Value) (f : Bool) : Prop :=
  h.get? z = some { cls := .type "zip", dict := none, data := .fields #[v0, .bool f, .bool false, .ref TI, .ref TO], slots := #[] }
def OwnV (v0 : Value) : Prop := v0 = .none ∨ ∃ T : Addr, v0 = rawInt T
section
variable {prog : Program} {w : World} {A : Around} {E : Value → Shared → Prop} {s : Shared}
theorem alive_any {a : Addr} {Q : Option Obj → Shared → Prop} (q : Q (s.heap.get? a) s) : wpAny (model prog w) A (loadIfAlive a) Q E s := fun _ _ _ => q
theorem own_ask {z TI TO : Addr} {v0 : Value} {f : Bool} {Q : Bool → Shared → Prop} (hz : ZipSt s.heap z TI TO v0 f) (ho : OwnV v0) (free : Q true s)
    (held : ∀ h', ZipSt h' z TI TO v0 true → Heap.SameBut z s.heap h' → Q false { s with heap := h' }) : wpAny (model prog w) A (Builtin.SmallTypes.ownedTupleIsFree (.ref z)) Q E s := by
  unfold Builtin.SmallTypes.ownedTupleIsFree
  refine wpAny_bind (wpAny_field hz rfl (x := v0) rfl ?_)
  rcases ho with rfl | ⟨T, rfl⟩
  · exact wpAny_pure free
  · show wpAny _ _ (loadIfAlive ((T : Int).toNat) >>= _) _ _ _
    refine wpAny_bind (alive_any ?_)
    rw [Int.toNat_natCast]
    cases s.heap.get? T with
    | none => exact wpAny_pure free
    | some o =>
      simp only [Option.isNone_some, Bool.false_eq_true, if_false]
      refine wpAny_bind (wpAny_field hz rfl (x := .bool f) rfl ?_)
      cases f with
      | true =>
        rw [if_neg (show ¬ ((Value.bool true != Value.bool true) = true) from Bool.false_ne_true)]
        exact wpAny_pure (held s.heap hz (Heap.SameBut.refl _ _))
      | false =>
        rw [if_pos (show (Value.bool false != Value.bool true) = true from rfl)]
        exact wpAny_bind (wpAny_setField_rec hz (by simp) fun h1 hz1 hs1 => wpAny_pure (held h1 hz1 hs1))
variable {z TI TO i1 i2 : Addr} {fp1 fp2 : List Addr} {n1 n2 i : Nat} {P1 P2 : Nat → Value → Prop} {St1 St2 : Nat → Heap → Prop} {v0 : Value} {f : Bool}
/-- the zip's next tuple -/
theorem zip_step {Q : Value → Shared → Prop} (S : ZipSep2 z TI TO i1 i2 fp1 fp2) (D1 : Draws prog w A i1 fp1 n1 P1 St1) (D2 : Draws prog w A i2 fp2 n2 P2 St2)
    (hz : ZipSt s.heap z TI TO v0 f) (ho : OwnV v0) (hTI : IsTupOf2 s.heap TI (.ref i1) (.ref i2)) (hTO : ∃ x y, IsTupOf2 s.heap TO x y) (st1 : St1 i s.heap) (st2 : St2 i s.heap) (hlt1 : i < n1) (hlt2 : i < n2)
    (hQ : ∀ x1 x2 h' tk, P1 i x1 → P2 i x2 → (∃ v0 f, ZipSt h' z TI TO v0 f ∧ OwnV v0) → (∃ x y, IsTupOf2 h' TO x y) → St1 (i + 1) h' → St2 (i + 1) h' → IsTupOf2 h' s.heap.objs.size x1 x2 → h'.objs.size = s.heap.objs.size + 1 →
      (∀ c o, c ≠ z → c ≠ TO → c ≠ i1 → c ≠ i2 → s.heap.get? c = some o → h'.get? c = some o) → Q (.ref s.heap.objs.size) { s with heap := h', toks := tk }) :
    wpAny (model prog w) A (Builtin.«zip.__next__» ⟨[.ref z], []⟩) (fun fin s' => ∃ v, fin = .done (.ret v) ∧ Q v s') E s := by
  obtain ⟨a1, a2, hTO⟩ := hTO
  obtain ⟨hp, g, d, tk0, os⟩ := s
  show wpAny _ _ (field (.ref z) 2 >>= _) _ _ _
  refine wpAny_bind (wpAny_field hz rfl (x := .bool false) rfl ?_)
  show wpAny _ _ (field (.ref z) 3 >>= _) _ _ _
  refine wpAny_bind (wpAny_field hz rfl (x := .ref TI) rfl ?_)
  refine wpAny_bind (wpAny_seqItems hTI rfl ?_)
  show wpAny _ _ (Builtin.SmallTypes.ownedTupleIsFree (.ref z) >>= _) _ _ _
  refine wpAny_bind (own_ask hz ho ?_ fun k0 hk0 hw0 => ?_)
  · simp only [if_true]
    refine wpAny_bind (wpAny_rule ?_)
    refine wpAny_bind (wpAny_field hz rfl (x := .ref TO) rfl ?_)
    refine wpAny_bind (wpAny_setField_rec hz (by simp) fun g0 hz0 hs0 => ?_)
    replace hz0 : ZipSt g0 z TI TO .ellipsis f := hz0
    replace hs0 : Heap.SameBut z hp g0 := hs0
    refine wpAny_bind ?_
    simp only [List.zipIdx_cons, List.zipIdx_nil, List.forIn_cons, List.forIn_nil]
    refine wpAny_bind (wpAny_bind (wpAny_onRaise ?_))
    show wpAny _ _ (Builtin.SmallTypes.nextOf (.ref i1) >>= _) _ _ ⟨g0, g, d, tk0, os⟩
    refine wpAny_bind (D1.item i _ _ _ hlt1 (D1.over st1 hs0 S.zf1) fun x1 p1 tk1 hx1 sn1 hp1 => wpAny_pure ?_)
    replace hp1 : Heap.SameBut i1 g0 p1 := hp1
    have hU1 : IsTupOf2 p1 TO a1 a2 := hp1.extBut _ _ S.Ti1 (hs0.extBut _ _ S.TOz hTO)
    refine wpAny_bind (wpAny_seqItems (s := ⟨p1, g, d, tk1, os⟩) hU1 rfl ?_)
    refine wpAny_bind (updateSeq_IsTupOf2 (s := ⟨p1, g, d, tk1, os⟩) hU1 fun g1 hT1 hs1 => ?_)
    replace hT1 : IsTupOf2 g1 TO x1 a2 := hT1
    replace hs1 : Heap.SameBut TO p1 g1 := hs1
    refine wpAny_bind (wpAny_letGo (wpAny_pure ?_))
    refine wpAny_bind (wpAny_bind (wpAny_onRaise ?_))
    show wpAny _ _ (Builtin.SmallTypes.nextOf (.ref i2) >>= _) _ _ ⟨g1, g, d, tk1, os⟩
    refine wpAny_bind (D2.item i _ _ _ hlt2 (D2.over (D2.over (D2.over st2 hs0 S.zf2) hp1 S.sep1_2) hs1 S.Tf2) fun x2 p2 tk2 hx2 sn2 hp2 => wpAny_pure ?_)
    replace hp2 : Heap.SameBut i2 g1 p2 := hp2
    have hU2 : IsTupOf2 p2 TO x1 a2 := hp2.extBut _ _ S.Ti2 hT1
    refine wpAny_bind (wpAny_seqItems (s := ⟨p2, g, d, tk2, os⟩) hU2 rfl ?_)
    refine wpAny_bind (updateSeq_IsTupOf2 (s := ⟨p2, g, d, tk2, os⟩) hU2 fun g2 hT2 hs2 => ?_)
    replace hT2 : IsTupOf2 g2 TO x1 x2 := hT2
    replace hs2 : Heap.SameBut TO p2 g2 := hs2
    refine wpAny_bind (wpAny_letGo (wpAny_pure (wpAny_pure ?_)))
    refine wpAny_bind (wpAny_seqItems (s := ⟨g2, g, d, tk2, os⟩) hT2 rfl ?_)
    refine wpAny_bind (wpAny_newTuple ?_)
    have hsz : g2.objs.size = hp.objs.size := by rw [hs2.1, hp2.1, hs1.1, hp1.1, hs0.1]
    have hzz : ZipSt g2 z TI TO .ellipsis f := hs2.extBut _ _ S.TOz.symm (hp2.extBut _ _ S.zi2 (hs1.extBut _ _ S.TOz.symm (hp1.extBut _ _ S.zi1 hz0)))
    have hkk : ∀ c o, c ≠ z → c ≠ TO → c ≠ i1 → c ≠ i2 → hp.get? c = some o → g2.get? c = some o := fun c o cz cT c1 c2 e =>
      hs2.extBut _ _ cT (hp2.extBut _ _ c2 (hs1.extBut _ _ cT (hp1.extBut _ _ c1 (hs0.extBut _ _ cz e))))
    have hj1 : St1 (i + 1) g2 := D1.over (D1.over (D1.over sn1 hs1 S.Tf1) hp2 S.sep2_1) hs2 S.Tf1
    have hj2 : St2 (i + 1) g2 := D2.over sn2 hs2 S.Tf2
    have hzlt : z < g2.objs.size := Heap.lt_size hzz
    show wpAny _ _ (Builtin.SmallTypes.ownedTupleHandOut (.ref z) (.ref g2.objs.size) >>= _) _ _ ⟨g2.push { cls := .type "tuple", data := .seq #[x1, x2] }, g, d, tk2, os⟩
    refine wpAny_bind ?_
    unfold Builtin.SmallTypes.ownedTupleHandOut
    have hz6 : ZipSt (g2.push { cls := .type "tuple", data := .seq #[x1, x2] }) z TI TO .ellipsis f := Heap.get?_push_of_some _ hzz
    refine wpAny_bind (wpAny_setField_rec hz6 (by simp) fun h7 hz7 hs7 => ?_)
    replace hz7 : ZipSt h7 z TI TO (rawInt g2.objs.size) f := hz7
    refine wpAny_setField_rec hz7 (by simp) fun h8 hz8 hs8 => ?_
    replace hz8 : ZipSt h8 z TI TO (rawInt g2.objs.size) false := hz8
    replace hs7 : Heap.SameBut z (g2.push { cls := .type "tuple", data := .seq #[x1, x2] }) h7 := hs7
    replace hs8 : Heap.SameBut z h7 h8 := hs8
    have up : ∀ c o, c ≠ z → g2.get? c = some o → h8.get? c = some o := fun c o c1 e => hs8.extBut _ _ c1 (hs7.extBut _ _ c1 (Heap.get?_push_of_some _ e))
    have hT8 : IsTupOf2 h8 g2.objs.size x1 x2 := hs8.extBut _ _ (Nat.ne_of_gt hzlt) (hs7.extBut _ _ (Nat.ne_of_gt hzlt) (Heap.get?_push_size _ rfl))
    have hn8 : h8.objs.size = g2.objs.size + 1 := by rw [hs8.1, hs7.1, Heap.size_push]
    rw [hsz] at hz8 hT8 hn8
    refine wpAny_pure ⟨_, rfl, ?_⟩
    show Q (.ref g2.objs.size) ⟨h8, g, d, tk2, os⟩
    rw [hsz]
    exact hQ x1 x2 h8 tk2 hx1 hx2 ⟨_, _, hz8, .inr ⟨_, rfl⟩⟩ ⟨_, _, up _ _ S.TOz hT2⟩ (D1.frame _ _ _ hj1 fun b hb o e => up b o (fun q => S.zf1 (q ▸ hb)) e) (D2.frame _ _ _ hj2 fun b hb o e => up b o (fun q => S.zf2 (q ▸ hb)) e) hT8 hn8
      fun c o cz cT c1 c2 e => up c o cz (hkk c o cz cT c1 c2 e)
  · simp only [Bool.false_eq_true, if_false]
    refine wpAny_bind ?_
    rw [← Array.forIn_toList]
    simp only [List.forIn_cons, List.forIn_nil]
    replace hw0 : Heap.SameBut z hp k0 := hw0
    refine wpAny_bind (wpAny_bind (wpAny_holding ?_))
    show wpAny _ _ (Builtin.SmallTypes.nextOf (.ref i1) >>= _) _ _ ⟨k0, g, d, tk0, os⟩
    refine wpAny_bind (D1.item i _ _ _ hlt1 (D1.over st1 hw0 S.zf1) fun x1 p1 tk1 hx1 sn1 hp1 => wpAny_pure ?_)
    replace hp1 : Heap.SameBut i1 k0 p1 := hp1
    refine wpAny_pure ?_
    refine wpAny_bind (wpAny_bind (wpAny_holding ?_))
    show wpAny _ _ (Builtin.SmallTypes.nextOf (.ref i2) >>= _) _ _ ⟨p1, g, d, tk1, os⟩
    refine wpAny_bind (D2.item i _ _ _ hlt2 (D2.over (D2.over st2 hw0 S.zf2) hp1 S.sep1_2) fun x2 p2 tk2 hx2 sn2 hp2 => wpAny_pure ?_)
    replace hp2 : Heap.SameBut i2 p1 p2 := hp2
    refine wpAny_pure (wpAny_pure ?_)
    show wpAny _ _ (newTuple [x1, x2] >>= _) _ _ ⟨p2, g, d, tk2, os⟩
    refine wpAny_bind (wpAny_newTuple ?_)
    have hsz : p2.objs.size = hp.objs.size := by rw [hp2.1, hp1.1, hw0.1]
    have hz2 : ZipSt p2 z TI TO v0 true := hp2.extBut _ _ S.zi2 (hp1.extBut _ _ S.zi1 hk0)
    have hk2 : ∀ c o, c ≠ z → c ≠ i1 → c ≠ i2 → hp.get? c = some o → p2.get? c = some o := fun c o c1 c2 c3 e => hp2.extBut _ _ c3 (hp1.extBut _ _ c2 (hw0.extBut _ _ c1 e))
    have hj1 : St1 (i + 1) p2 := D1.over sn1 hp2 S.sep2_1
    refine wpAny_pure ⟨_, rfl, ?_⟩
    show Q (.ref p2.objs.size) _
    have hp4 : IsTupOf2 (p2.push { cls := .type "tuple", data := .seq #[x1, x2] }) p2.objs.size x1 x2 := Heap.get?_push_size _ rfl
    have hn4 : (p2.push { cls := .type "tuple", data := .seq #[x1, x2] }).objs.size = p2.objs.size + 1 := Heap.size_push ..
    rw [hsz] at hp4 hn4 ⊢
    have upS : ∀ b o, p2.get? b = some o → (p2.push { cls := .type "tuple", data := .seq #[x1, x2] }).get? b = some o := fun b o e => Heap.get?_push_of_some _ e
    exact hQ x1 x2 _ tk2 hx1 hx2 ⟨_, _, upS _ _ hz2, ho⟩ ⟨_, _, upS _ _ (hk2 _ _ S.TOz S.Ti1 S.Ti2 hTO)⟩ (D1.frame _ _ _ hj1 fun b _ o e => upS b o e) (D2.frame _ _ _ sn2 fun b _ o e => upS b o e) hp4 hn4
      fun c o cz cT c1 c2 e => upS _ _ (hk2 c o cz c1 c2 e)
/-- .. it has none -/
theorem zip_stop {Q : Fin → Shared → Prop} (S : ZipSep2 z TI TO i1 i2 fp1 fp2) (D1 : Draws prog w A i1 fp1 n1 P1 St1) (D2 : Draws prog w A i2 fp2 n2 P2 St2)
    (hz : ZipSt s.heap z TI TO v0 f) (ho : OwnV v0) (hTI : IsTupOf2 s.heap TI (.ref i1) (.ref i2)) (hTO : ∃ x y, IsTupOf2 s.heap TO x y) (st1 : St1 i s.heap) (st2 : St2 i s.heap) (hle1 : i ≤ n1) (hle2 : i ≤ n2) (hend : i = n1 ∨ i = n2)
    (hE : ∀ h' tk e, (∀ c o, c ≠ z → c ≠ TO → c ≠ i1 → c ≠ i2 → s.heap.get? c = some o → h'.get? c = some o) → (∃ o, h'.get? e = some o ∧ o.cls = .type "StopIteration") → E (.ref e) { s with heap := h', toks := tk }) :
    wpAny (model prog w) A (Builtin.«zip.__next__» ⟨[.ref z], []⟩) Q E s := by
  obtain ⟨a1, a2, hTO⟩ := hTO
  obtain ⟨hp, g, d, tk0, os⟩ := s
  show wpAny _ _ (field (.ref z) 2 >>= _) _ _ _
  refine wpAny_bind (wpAny_field hz rfl (x := .bool false) rfl ?_)
  show wpAny _ _ (field (.ref z) 3 >>= _) _ _ _
  refine wpAny_bind (wpAny_field hz rfl (x := .ref TI) rfl ?_)
  refine wpAny_bind (wpAny_seqItems hTI rfl ?_)
  show wpAny _ _ (Builtin.SmallTypes.ownedTupleIsFree (.ref z) >>= _) _ _ _
  refine wpAny_bind (own_ask hz ho ?_ fun k0 hk0 hw0 => ?_)
  · simp only [if_true]
    refine wpAny_bind (wpAny_rule ?_)
    refine wpAny_bind (wpAny_field hz rfl (x := .ref TO) rfl ?_)
    refine wpAny_bind (wpAny_setField_rec hz (by simp) fun g0 hz0 hs0 => ?_)
    replace hz0 : ZipSt g0 z TI TO .ellipsis f := hz0
    replace hs0 : Heap.SameBut z hp g0 := hs0
    refine wpAny_bind ?_
    simp only [List.zipIdx_cons, List.zipIdx_nil, List.forIn_cons, List.forIn_nil]
    refine wpAny_bind (wpAny_bind (wpAny_onRaise ?_))
    show wpAny _ _ (Builtin.SmallTypes.nextOf (.ref i1) >>= _) _ _ ⟨g0, g, d, tk0, os⟩
    by_cases hlt1 : i < n1
    · refine wpAny_bind (D1.item i _ _ _ hlt1 (D1.over st1 hs0 S.zf1) fun x1 p1 tk1 hx1 sn1 hp1 => wpAny_pure ?_)
      replace hp1 : Heap.SameBut i1 g0 p1 := hp1
      have hU1 : IsTupOf2 p1 TO a1 a2 := hp1.extBut _ _ S.Ti1 (hs0.extBut _ _ S.TOz hTO)
      refine wpAny_bind (wpAny_seqItems (s := ⟨p1, g, d, tk1, os⟩) hU1 rfl ?_)
      refine wpAny_bind (updateSeq_IsTupOf2 (s := ⟨p1, g, d, tk1, os⟩) hU1 fun g1 hT1 hs1 => ?_)
      replace hT1 : IsTupOf2 g1 TO x1 a2 := hT1
      replace hs1 : Heap.SameBut TO p1 g1 := hs1
      refine wpAny_bind (wpAny_letGo (wpAny_pure ?_))
      have hi2 : i = n2 := by omega
      refine wpAny_bind (wpAny_bind (wpAny_onRaise ?_))
      show wpAny _ _ (Builtin.SmallTypes.nextOf (.ref i2) >>= _) _ _ ⟨g1, g, d, tk1, os⟩
      refine wpAny_bind (D2.done ⟨g1, g, d, tk1, os⟩ _ _ (by rw [← hi2]; exact D2.over (D2.over (D2.over st2 hs0 S.zf2) hp1 S.sep1_2) hs1 S.Tf2) fun q e hq he => ?_)
      replace hq : Heap.ExtBut i2 g1 q := hq
      obtain ⟨oe, hoe, hce⟩ := he
      replace hoe : q.get? e = some oe := hoe
      have hzq : ZipSt q z TI TO .ellipsis f := hq _ _ S.zi2 (hs1.extBut _ _ S.TOz.symm (hp1.extBut _ _ S.zi1 hz0))
      have hez : e ≠ z := fun x => by subst x; rw [hzq] at hoe; cases hoe; simp at hce
      refine wpAny_setField_rec (s := ⟨q, g, d, tk1, os⟩) hzq (by simp) fun q' _ hq' => ?_
      replace hq' : Heap.SameBut z q q' := hq'
      exact hE q' tk1 e (fun c o cz cT c1 c2 x => hq'.extBut _ _ cz (hq _ _ c2 (hs1.extBut _ _ cT (hp1.extBut _ _ c1 (hs0.extBut _ _ cz x))))) ⟨oe, hq'.extBut _ _ hez hoe, hce⟩
    · have hi1 : i = n1 := by omega
      refine wpAny_bind (D1.done ⟨g0, g, d, tk0, os⟩ _ _ (by rw [← hi1]; exact D1.over st1 hs0 S.zf1) fun q e hq he => ?_)
      replace hq : Heap.ExtBut i1 g0 q := hq
      obtain ⟨oe, hoe, hce⟩ := he
      replace hoe : q.get? e = some oe := hoe
      have hzq : ZipSt q z TI TO .ellipsis f := hq _ _ S.zi1 hz0
      have hez : e ≠ z := fun x => by subst x; rw [hzq] at hoe; cases hoe; simp at hce
      refine wpAny_setField_rec (s := ⟨q, g, d, tk0, os⟩) hzq (by simp) fun q' _ hq' => ?_
      replace hq' : Heap.SameBut z q q' := hq'
      exact hE q' tk0 e (fun c o cz cT c1 c2 x => hq'.extBut _ _ cz (hq _ _ c1 (hs0.extBut _ _ cz x))) ⟨oe, hq'.extBut _ _ hez hoe, hce⟩
  · simp only [Bool.false_eq_true, if_false]
    refine wpAny_bind ?_
    rw [← Array.forIn_toList]
    simp only [List.forIn_cons, List.forIn_nil]
    replace hw0 : Heap.SameBut z hp k0 := hw0
    refine wpAny_bind (wpAny_bind (wpAny_holding ?_))
    show wpAny _ _ (Builtin.SmallTypes.nextOf (.ref i1) >>= _) _ _ ⟨k0, g, d, tk0, os⟩
    by_cases hlt1 : i < n1
    · refine wpAny_bind (D1.item i _ _ _ hlt1 (D1.over st1 hw0 S.zf1) fun x1 p1 tk1 hx1 sn1 hp1 => wpAny_pure ?_)
      replace hp1 : Heap.SameBut i1 k0 p1 := hp1
      refine wpAny_pure ?_
      have hi2 : i = n2 := by omega
      refine wpAny_bind (wpAny_bind (wpAny_holding ?_))
      show wpAny _ _ (Builtin.SmallTypes.nextOf (.ref i2) >>= _) _ _ ⟨p1, g, d, tk1, os⟩
      refine wpAny_bind (D2.done ⟨p1, g, d, tk1, os⟩ _ _ (by rw [← hi2]; exact D2.over (D2.over st2 hw0 S.zf2) hp1 S.sep1_2) fun q e hq he => ?_)
      exact hE q tk1 e (fun c o cz cT c1 c2 x => hq _ _ c2 (hp1.extBut _ _ c1 (hw0.extBut _ _ cz x))) he
    · have hi1 : i = n1 := by omega
      refine wpAny_bind (D1.done ⟨k0, g, d, tk0, os⟩ _ _ (by rw [← hi1]; exact D1.over st1 hw0 S.zf1) fun q e hq he => ?_)
      exact hE q tk0 e (fun c o cz cT c1 c2 x => hq _ _ c1 (hw0.extBut _ _ cz x)) he
end
end Mi
-- MirZ2
set_option Elab.async false
set_option linter.all false
set_option maxRecDepth 100000
set_option maxHeartbeats 4000000
namespace Mi
open PySem L2 PyProof.Rows PySem.Spec
section
variable {prog : Program} {w : World} {A : Around} {E : Value → Shared → Prop} {s : Shared}
/-- enumerate's next over whatever its iterator does -/
theorem enum_over {e it : Addr} {c : Int} {old : Value} {Kp : Value → Shared → Prop} {Q : Value → Shared → Prop} (he : IsEnum s.heap e it c old)
    (inner : wpAny (model prog w) A (Builtin.SmallTypes.nextOf (.ref it)) (fun x s1 => IsEnum s1.heap e it c old ∧ Kp x s1) E s)
    (hQ : ∀ x s1, Kp x s1 → IsEnum s1.heap e it c old → ∀ h' t tk, IsEnumOut h' e it (c + 1) x s1.heap.objs.size → h'.get? s1.heap.objs.size = some { cls := .type "tuple", data := .seq #[.int c t, x] } →
      h'.objs.size = s1.heap.objs.size + 1 → (∀ b o, b ≠ e → s1.heap.get? b = some o → h'.get? b = some o) → Q (.ref s1.heap.objs.size) { s1 with heap := h', toks := tk }) :
    wpAny (model prog w) A (Builtin.«enumerate.__next__» ⟨[.ref e], []⟩) (fun fin s' => ∃ v, fin = .done (.ret v) ∧ Q v s') E s := by
  show wpAny _ _ (field (.ref e) 2 >>= _) _ _ _
  refine wpAny_bind (wpAny_field he rfl (x := .ref it) rfl ?_)
  refine wpAny_bind (wpAny_mono inner (fun x s1 q => ?_) fun _ _ z => z)
  obtain ⟨he1, kx⟩ := q
  have fin := hQ x s1 kx he1
  obtain ⟨h1, g, d, tk, os⟩ := s1
  replace he1 : IsEnum h1 e it c old := he1
  show wpAny _ _ (field (.ref e) 3 >>= _) _ _ ⟨h1, g, d, tk, os⟩
  refine wpAny_bind (wpAny_field he1 rfl (x := rawInt c) rfl ?_)
  show wpAny _ _ (field (.ref e) 4 >>= _) _ _ ⟨h1, g, d, tk, os⟩
  refine wpAny_bind (wpAny_field he1 rfl (x := .none) rfl ?_)
  show wpAny _ _ (mkInt c >>= _) _ _ ⟨h1, g, d, tk, os⟩
  refine wpAny_bind (wpAny_mkInt ?_)
  show wpAny _ _ (setField (.ref e) 3 (rawInt (c + 1)) >>= _) _ _ ⟨h1, g, d, tk + 1, os⟩
  refine wpAny_bind (wpAny_setField_rec he1 (by simp) fun h2 he2 hs2 => ?_)
  replace hs2 : Heap.SameBut e h1 h2 := hs2
  replace he2 : IsEnum h2 e it (c + 1) old := he2
  show wpAny _ _ (setField (.ref e) 4 .none >>= _) _ _ ⟨h2, g, d, tk + 1, os⟩
  refine wpAny_bind (wpAny_setField_rec he2 (by simp) fun h3 he3 hs3 => ?_)
  replace hs3 : Heap.SameBut e h2 h3 := hs3
  replace he3 : IsEnum h3 e it (c + 1) old := he3
  show wpAny _ _ (newTuple [.int c tk, x] >>= _) _ _ ⟨h3, g, d, tk + 1, os⟩
  refine wpAny_bind (wpAny_newTuple ?_)
  have he4 : IsEnum (h3.push { cls := .type "tuple", data := .seq #[.int c tk, x] }) e it (c + 1) old := Heap.get?_push_of_some _ he3
  generalize hh4 : h3.push { cls := .type "tuple", data := .seq #[.int c tk, x] } = h4 at he4
  have hsz : h3.objs.size = h1.objs.size := by rw [hs3.1, hs2.1]
  have hel : e < h1.objs.size := Heap.lt_size he1
  have ht4 : h4.get? h1.objs.size = some { cls := .type "tuple", data := .seq #[.int c tk, x] } := by rw [← hh4, ← hsz]; exact Heap.get?_push_size _ rfl
  have hz4 : h4.objs.size = h1.objs.size + 1 := by rw [← hh4, Heap.size_push, hsz]
  have hk4 : ∀ b o, b ≠ e → h1.get? b = some o → h4.get? b = some o := fun b o hbe hb => by
    rw [← hh4]; exact Heap.get?_push_of_some _ (hs3.extBut b o hbe (hs2.extBut b o hbe hb))
  show wpAny _ _ (Builtin.SmallTypes.ownedTupleIsFree (.ref e) >>= _) _ _ ⟨h4, g, d, tk + 1, os⟩
  rw [hsz]
  refine wpAny_bind ?_
  unfold Builtin.SmallTypes.ownedTupleIsFree
  refine wpAny_bind (wpAny_field he4 rfl (x := .none) rfl (wpAny_pure ?_))
  simp only [if_true]
  refine wpAny_bind (wpAny_rule ?_)
  refine wpAny_bind (wpAny_field he4 rfl (x := old) rfl ?_)
  refine wpAny_bind (wpAny_setField_rec he4 (by simp) fun h5 he5 hs5 => ?_)
  replace hs5 : Heap.SameBut e h4 h5 := hs5
  replace he5 : IsEnum h5 e it (c + 1) x := he5
  show wpAny _ _ (Builtin.SmallTypes.ownedTupleHandOut (.ref e) (.ref h1.objs.size) >>= _) _ _ ⟨h5, g, d, tk + 1, os⟩
  refine wpAny_bind ?_
  unfold Builtin.SmallTypes.ownedTupleHandOut
  refine wpAny_bind (wpAny_setField_rec he5 (by simp) fun h6 he6 hs6 => ?_)
  replace hs6 : Heap.SameBut e h5 h6 := hs6
  replace he6 : IsEnumOut h6 e it (c + 1) x h1.objs.size := he6
  refine wpAny_setField_rec he6 (by simp) fun h7 he7 hs7 => ?_
  replace hs7 : Heap.SameBut e h6 h7 := hs7
  replace he7 : IsEnumOut h7 e it (c + 1) x h1.objs.size := he7
  have up : ∀ b o, b ≠ e → h4.get? b = some o → h7.get? b = some o := fun b o hb q => hs7.extBut b o hb (hs6.extBut b o hb (hs5.extBut b o hb q))
  exact wpAny_bind (wpAny_letGo (wpAny_pure ⟨_, rfl, fin h7 tk (tk + 1) he7 (up _ _ (Nat.ne_of_gt hel) ht4) (by rw [hs7.1, hs6.1, hs5.1, hz4]) fun b o hb q => up b o hb (hk4 b o hb q)⟩))
theorem next_enum {e it : Addr} {c : Int} {old : Value} {Kp : Value → Shared → Prop} {Q : Option Value → Shared → Prop} (he : IsEnum s.heap e it c old)
    (inner : wpAny (model prog w) A.in1 (Builtin.SmallTypes.nextOf (.ref it)) (fun x s1 => IsEnum s1.heap e it c old ∧ Kp x s1) (fun v s1 => (∃ o, (∃ a, v = .ref a ∧ s1.heap.get? a = some o) ∧ o.cls = .type "StopIteration") ∧ Q none s1) s)
    (hQ : ∀ x s1, Kp x s1 → IsEnum s1.heap e it c old → ∀ h' t tk, IsEnumOut h' e it (c + 1) x s1.heap.objs.size → h'.get? s1.heap.objs.size = some { cls := .type "tuple", data := .seq #[.int c t, x] } →
      h'.objs.size = s1.heap.objs.size + 1 → (∀ b o, b ≠ e → s1.heap.get? b = some o → h'.get? b = some o) → Q (some (.ref s1.heap.objs.size)) { s1 with heap := h', toks := tk }) :
    wpAny (model prog w) A (pyNext (.ref e)) Q E s := by
  have hT : s.TypeIs (.ref e) "enumerate" := ⟨_, he, rfl⟩
  unfold pyNext
  refine wpAny_bind (wpAny_attempt (wpAny_callSpecial?_slot (name := Str.ofString "__next__") hT F.slot_enumerate_next
    (wpAny_call_entry F.slot_enumerate_next hT F.entry_enumerate_next
      (wpAny_mono (enum_over (Q := fun v s' => Q (some v) s') he inner hQ) (fun fin s' ⟨v, e1, q⟩ => ⟨v, e1, wpAny_pure q⟩) fun v s' q => ?_) (F.args_enumerate_next_1 _))))
  obtain ⟨⟨o, ⟨a, rfl, ho⟩, hc⟩, q⟩ := q
  refine wpAny_bind (wpAny_isInstance (T := "StopIteration") (b := true) ⟨o, ho, hc⟩ isSubtype_stop ?_)
  exact wpAny_pure q
end
/-! ### enumerate(zip(x, y)) -/
def Itnz (k1 k2 : Sk) (K : PySem.W.Frag) (a b : Addr) (k0 : Int) : It :=
  ⟨fun i H => ∃ (xs ys : List V) (x y : V), k1.at_ K H a xs ∧ k2.at_ K H b ys ∧ xs[i]? = some x ∧ ys[i]? = some y,
    fun i H v H' => ∃ T1 T2 x y, v = .ref T2 ∧ H T1 = none ∧ T1 ≠ T2 ∧ H T2 = none ∧ H' = upd (upd H T1 (.tup [x, y])) T2 (.tup [.int (k0 + (i : Int)), .ref T1]) ∧ (∀ xs, k1.at_ K H a xs → xs[i]? = some x) ∧ ∀ ys, k2.at_ K H b ys → ys[i]? = some y,
    fun i H => ∃ xs ys : List V, k1.at_ K H a xs ∧ k2.at_ K H b ys ∧ i = min xs.length ys.length⟩
def TnZ (k1 k2 : Sk) (e z TI TO i1 i2 a b : Addr) (k0 : Int) (i : Nat) (h : Heap) : Prop :=
  (∃ old, IsEnum h e z (k0 + (i : Int)) old) ∧ (∃ v0 f, ZipSt h z TI TO v0 f ∧ OwnV v0) ∧ IsTupOf2 h TI (.ref i1) (.ref i2) ∧ (∃ x y, IsTupOf2 h TO x y) ∧ k1.itr h i1 a i ∧ k2.itr h i2 b i
theorem TnZ.obj {k1 k2 : Sk} {e z TI TO i1 i2 a b : Addr} {k0 : Int} {i : Nat} {h : Heap} (st : TnZ k1 k2 e z TI TO i1 i2 a b k0 i h) : ∀ c ∈ [e, z, TI, TO, i1, i2], ∃ o, h.get? c = some o ∧ ∀ v, o.data ≠ .cell v := fun c hc => by
  obtain ⟨⟨old, he⟩, ⟨v0, f, hz, _⟩, hTI, ⟨x, y, hTO⟩, h1, h2⟩ := st
  have e' : c = e ∨ c = z ∨ c = TI ∨ c = TO ∨ c = i1 ∨ c = i2 := by simpa using hc
  rcases e' with q | q | q | q | q | q
  · rw [q]; exact ⟨_, he, fun v q => nomatch q⟩
  · rw [q]; exact ⟨_, hz, fun v q => nomatch q⟩
  · rw [q]; exact ⟨_, hTI, fun v q => nomatch q⟩
  · rw [q]; exact ⟨_, hTO, fun v q => nomatch q⟩
  · rw [q]; exact Sk.itr_obj h1
  · rw [q]; exact Sk.itr_obj h2
theorem FpOk.upd {X : Cx} {pins : List (Addr × Obj)} {H : Hp} {b T : Addr} {u : HO} (h : FpOk X pins H b) (ne : b ≠ T) : FpOk X pins (L2.upd H T u) b := ⟨by rw [upd_ne ne]; exact h.1, h.2⟩
theorem turn_enumZ {P : Program} {w : World} {K : PySem.W.Frag} {elts : List Expr} {kk : Nat} {tpos : Pos} {k1 k2 : Sk} {a b e z TI TO i1 i2 : Addr} {k0 : Int} (S : ZipSep2 z TI TO i1 i2 [i1, a] [i2, b]) (n1 : a ≠ i1) (n2 : b ≠ i2)
    (ne : e ∉ [z, TI, TO, i1, i2]) : Turn P w K (.Tuple elts kk tpos) (Itnz k1 k2 K a b k0) [e, z, TI, TO, i1, i2] e (TnZ k1 k2 e z TI TO i1 i2 a b k0) where
  mem := by simp
  obj := fun i h st => st.obj
  keep := fun i h h' st k => by
    obtain ⟨⟨old, he⟩, ⟨v0, f, hz, ho⟩, hTI, ⟨x, y, hTO⟩, h1, h2⟩ := st
    exact ⟨⟨old, k e (by simp) _ he⟩, ⟨v0, f, k z (by simp) _ hz, ho⟩, k TI (by simp) _ hTI, ⟨x, y, k TO (by simp) _ hTO⟩, Sk.itr_at h1 fun o q => k i1 (by simp) o q, Sk.itr_at h2 fun o q => k i2 (by simp) o q⟩
  item := by
    intro X hP hw hK hc i pins s σ H E I hf st hg
    subst hP hw hK
    have hob := st.obj
    obtain ⟨⟨old, he⟩, ⟨v0, f, hz, ho⟩, hTI, hTO, h1, h2⟩ := st
    obtain ⟨xs, ys, x, y, hqx, hqy, hx, hy⟩ := hg
    obtain ⟨its, rv, p, _⟩ := Sk.of_inv I hqx
    obtain ⟨its2, rv2, p2, _⟩ := Sk.of_inv I hqy
    obtain ⟨u, hu, ru⟩ := rv.get hx
    obtain ⟨u2, hu2, ru2⟩ := rv2.get hy
    have hu' : its.toArray[i]? = some u := by simpa using hu
    have hu2' : its2.toArray[i]? = some u2 := by simpa using hu2
    have hh : X.A.in1.in1.handled = none := I.ok.hd hc
    have hl1 : i < its.toArray.size := (Array.getElem?_eq_some_iff.mp hu').1
    have hl2 : i < its2.toArray.size := (Array.getElem?_eq_some_iff.mp hu2').1
    have lt : ∀ c ∈ [e, z, TI, TO, i1, i2], c < s.heap.objs.size := fun c hc => by obtain ⟨o, q, _⟩ := hob c hc; exact Heap.lt_size q
    have hez : e ≠ z := fun q => ne (by simp [q])
    have heTI : e ≠ TI := fun q => ne (by simp [q])
    have heTO : e ≠ TO := fun q => ne (by simp [q])
    have he1 : e ≠ i1 := fun q => ne (by simp [q])
    have he2 : e ≠ i2 := fun q => ne (by simp [q])
    have hTz : s.TypeIs (.ref z) "zip" := ⟨_, hz, rfl⟩
    have sub4 : ∀ c, c ∈ [z, TO, i1, i2] → c ∈ [e, z, TI, TO, i1, i2] := fun c q => by
      have e' : c = z ∨ c = TO ∨ c = i1 ∨ c = i2 := by simpa using q
      rcases e' with q | q | q | q <;> simp [q]
    refine next_enum (Kp := fun v s1 => v = .ref s.heap.objs.size ∧ Inv X pins σ (upd H s.heap.objs.size (.tup [x, y])) s1 ∧ s1.heap.objs.size = s.heap.objs.size + 1 ∧
      (∃ v0 f, ZipSt s1.heap z TI TO v0 f ∧ OwnV v0) ∧ IsTupOf2 s1.heap TI (.ref i1) (.ref i2) ∧ (∃ x y, IsTupOf2 s1.heap TO x y) ∧ k1.itr s1.heap i1 a (i + 1) ∧ k2.itr s1.heap i2 b (i + 1)) he ?_ ?_
    · unfold Builtin.SmallTypes.nextOf
      refine wpAny_bind (wpAny_callSpecial?_slot (name := Str.ofString "__next__") hTz F.slot_zip_next (wpAny_call_entry F.slot_zip_next hTz F.entry_zip_next
        (zip_step S (Sk.draws (k := k1) (prog := X.prog) (w := X.w) hh n1 its.toArray) (Sk.draws (k := k2) (prog := X.prog) (w := X.w) hh n2 its2.toArray) hz ho hTI hTO ⟨h1, p⟩ ⟨h2, p2⟩ hl1 hl2
          fun v1 v2 h' tk e1 e2 q1 q2 q3 q4 hTup hn hk => wpAny_pure ?_) (F.args_zip_next_1 _)))
      rw [hu'] at e1; cases e1
      rw [hu2'] at e2; cases e2
      have new : ObjOk X.prog X.w (upd H s.heap.objs.size (.tup [x, y])) h' s.heap.objs.size (.tup [x, y]) := ⟨by show 2 ≤ sizeLine; decide, [u, u2], .cons ru (.cons ru2 .nil), ⟨_, hTup, rfl, _, rfl⟩⟩
      have kk4 : ∀ b o, b ∉ [z, TO, i1, i2] → s.heap.get? b = some o → h'.get? b = some o := fun b o hb q => hk b o (fun w => hb (by simp [w])) (fun w => hb (by simp [w])) (fun w => hb (by simp [w])) (fun w => hb (by simp [w])) q
      exact ⟨kk4 e _ (by simp [hez, heTO, he1, he2]) he, rfl, I.turnedNew (ch := [z, TO, i1, i2]) kk4 (fun c q => hf c (sub4 c q)) (Nat.le_refl _) new, hn, q1, hk _ _ S.TIz S.TITO S.TIi1 S.TIi2 hTI, q2, q3.1, q4.1⟩
    · rintro v s1 ⟨rfl, I1, hn1, ⟨w0, f1, hz1, ho1⟩, hTI1, ⟨a1, a2, hTO1⟩, g1, g2⟩ heE h' t tk hOut hT2 hn2 hk2
      refine ⟨_, rfl, wpAny_letOwnedTupleGo_enum hOut fun h2' hE2 hs2 => ?_⟩
      replace hs2 : Heap.SameBut e h' h2' := hs2
      have lt1 : ∀ c ∈ [e, z, TI, TO, i1, i2], c < s1.heap.objs.size := fun c hc => Nat.lt_of_lt_of_le (lt c hc) (by rw [hn1]; exact Nat.le_succ _)
      have up : ∀ b o, b ≠ e → s1.heap.get? b = some o → h2'.get? b = some o := fun b o hb q => hs2.extBut b o hb (hk2 b o hb q)
      have hTn : s1.heap.objs.size ≠ e := Nat.ne_of_gt (lt1 e (by simp))
      have new2 : ObjOk X.prog X.w (upd (upd H s.heap.objs.size (.tup [x, y])) s1.heap.objs.size (.tup [.int (k0 + (i : Int)), .ref s.heap.objs.size])) h2' s1.heap.objs.size (.tup [.int (k0 + (i : Int)), .ref s.heap.objs.size]) :=
        ⟨by show 2 ≤ sizeLine; decide, [.int (k0 + (i : Int)) t, .ref s.heap.objs.size], .cons ⟨_, rfl⟩ (.cons rfl .nil), ⟨_, hs2.extBut _ _ hTn hT2, rfl, _, rfl⟩⟩
      refine ⟨.ref s1.heap.objs.size, _, I1.turnedNew (ch := [e]) (fun b o hb q => up b o (fun w => hb (by simp [w])) q) (fun c q => ?_) (Nat.le_refl _) new2, rfl, ⟨s.heap.objs.size, s1.heap.objs.size, x, y, rfl, I.hok.fresh (Nat.le_refl _), Nat.ne_of_lt (by rw [hn1]; exact Nat.lt_succ_self _), I.hok.fresh (by rw [hn1]; exact Nat.le_succ _), rfl,
        fun ys hy => by rw [Sk.inj I hy hqx]; exact hx, fun ys hy' => by rw [Sk.inj I hy' hqy]; exact hy⟩, ⟨⟨.ref s.heap.objs.size, ?_⟩, ⟨w0, f1, up _ _ hez.symm hz1, ho1⟩, up _ _ heTI.symm hTI1, ⟨a1, a2, up _ _ heTO.symm hTO1⟩, Sk.itr_at g1 fun o q => up _ _ he1.symm q, Sk.itr_at g2 fun o q => up _ _ he2.symm q⟩, fun c hcm => ?_⟩
      · have q' : c = e := by simpa using q
        subst q'
        exact Mi.FpOk.upd (hf c (by simp)) (Nat.ne_of_lt (lt c (by simp)))
      · have e1 : k0 + ((i + 1 : Nat) : Int) = k0 + (i : Int) + 1 := by omega
        rw [e1]; exact hE2
      · rw [upd_ne (Nat.ne_of_lt (lt1 c hcm)), upd_ne (Nat.ne_of_lt (lt c hcm))]
        exact (hf c hcm).1
  done := by
    intro X hP hw hK hc i pins s σ H E I hf st hg
    subst hP hw hK
    obtain ⟨⟨old, he⟩, ⟨v0, f, hz, ho⟩, hTI, hTO, h1, h2⟩ := st
    obtain ⟨xs, ys, hqx, hqy, hi⟩ := hg
    obtain ⟨its, rv, p, _⟩ := Sk.of_inv I hqx
    obtain ⟨its2, rv2, p2, _⟩ := Sk.of_inv I hqy
    have hh : X.A.in1.in1.handled = none := I.ok.hd hc
    have l1 : its.toArray.size = xs.length := by rw [rv.length]; simp
    have l2 : its2.toArray.size = ys.length := by rw [rv2.length]; simp
    have hTz : s.TypeIs (.ref z) "zip" := ⟨_, hz, rfl⟩
    have sub4 : ∀ c, c ∈ [z, TO, i1, i2] → c ∈ [e, z, TI, TO, i1, i2] := fun c q => by
      have e' : c = z ∨ c = TO ∨ c = i1 ∨ c = i2 := by simpa using q
      rcases e' with q | q | q | q <;> simp [q]
    refine next_enum (Kp := fun v s1 => False) he ?_ (fun x s1 k => k.elim)
    unfold Builtin.SmallTypes.nextOf
    refine wpAny_bind (wpAny_callSpecial?_slot (name := Str.ofString "__next__") hTz F.slot_zip_next (wpAny_call_entry F.slot_zip_next hTz F.entry_zip_next
        (zip_stop S (Sk.draws (k := k1) (prog := X.prog) (w := X.w) hh n1 its.toArray) (Sk.draws (k := k2) (prog := X.prog) (w := X.w) hh n2 its2.toArray) hz ho hTI hTO ⟨h1, p⟩ ⟨h2, p2⟩ (by omega) (by omega) (by omega)
          fun h' tk x hk hs => ?_) (F.args_zip_next_1 _)))
    obtain ⟨o, hx, hcl⟩ := hs
    have kk4 : ∀ b o, b ∉ [z, TO, i1, i2] → s.heap.get? b = some o → h'.get? b = some o := fun b o hb q => hk b o (fun w => hb (by simp [w])) (fun w => hb (by simp [w])) (fun w => hb (by simp [w])) (fun w => hb (by simp [w])) q
    exact ⟨⟨o, ⟨x, rfl, hx⟩, hcl⟩, rfl, I.turnedL (ch := [z, TO, i1, i2]) kk4 (fun c q => hf c (sub4 c q))⟩
  self := fun A i s Q E st h => let ⟨⟨_, he⟩, _⟩ := st; wpAny_pyIter_enum he h
theorem meets_enumerate_newZ {z TI TO : Addr} {f0 : Value} :
    Meets (Builtin.«enumerate.__new__» ⟨[.type "enumerate", .ref z], []⟩) (fun _ R s => IsZip s.heap z TI TO f0 ∧
      R (.ok (.ret (.ref s.heap.objs.size))) { s with heap := s.heap.push { cls := .type "enumerate", data := .fields #[.none, .bool false, .ref z, rawInt 0, .none, .none] } }) :=
  .of_wp fun prog w A R s h => by
    obtain ⟨hp, g, d, tk, os⟩ := s; obtain ⟨h1, h⟩ := h
    have hsub := sub_enumerate
    have q1 : ∀ {A' : Around} {E : Value → Shared → Prop} {Q : Value → Shared → Prop}, Q (.ref z) ⟨hp, g, d, tk, os⟩ → wpAny (model prog w) A' (pyIter (.ref z)) Q E ⟨hp, g, d, tk, os⟩ :=
      fun q => wpAny_pyIter_zip (s := ⟨hp, g, d, tk, os⟩) h1 q
    wp_walk using q1
    refine wpAny_stack_any fun st => wpAny_pure ?_
    split
    · rename_i c _ _ _ _ _
      cases (c == Value.type "enumerate")
      · wp_walk using q1
        exact ⟨_, rfl, h⟩
      · wp_walk using q1
        exact ⟨_, rfl, h⟩
    · wp_walk using q1
      exact ⟨_, rfl, h⟩
theorem enum_beginsZ {prog : Program} {w : World} {A : Around} {E : Value → Shared → Prop} {s : Shared} {z TI TO : Addr} {f0 : Value} {Q : Value → Shared → Prop} (hz : IsZip s.heap z TI TO f0)
    (h : ∀ h', IsEnum h' s.heap.objs.size z 0 .none → (∀ b o, s.heap.get? b = some o → h'.get? b = some o) → Q (.ref s.heap.objs.size) { s with heap := h' }) :
    wpAny (model prog w) A (call (.type "enumerate") [.ref z]) Q E s := by
  refine callType_new F.called_enumerate (by decide) (F.typeCall_enumerate_1 _) (F.newCall_enumerate_1 _) (fun obj => F.args_object_init_2 obj _) F.entry_enumerate_new
    meets_enumerate_newZ ⟨hz, ?_⟩
  have he : IsEnum (s.heap.push { cls := .type "enumerate", data := .fields #[.none, .bool false, .ref z, rawInt 0, .none, .none] }) s.heap.objs.size z 0 .none := Heap.get?_push_size _ rfl
  exact ⟨⟨_, he, rfl⟩, h _ he fun b o x => Heap.get?_push_of_some _ x⟩
def iEnZ (K : PySem.W.Frag) (ta : TA) : TI := fun σ H R => ta σ H fun vs H1 => ∃ k1 k2 a b xs ys, vs = [.ref a, .ref b] ∧ Sk.at_ k1 K H1 a xs ∧ Sk.at_ k2 K H1 b ys ∧ R (Itnz k1 k2 K a b 0) H1
section
variable {X : Cx} {e e2 : Expr} {ta : TA} {p p2 pos pos2 tpos : Pos} {elts : List Expr} {kk : Nat}
theorem pi_enumZ (hg : Gl X "enumerate") (hm : X.mg "enumerate" = none) (hg2 : Gl X "zip") (hm2 : X.mg "zip" = none) (ha : PA X [e, e2] ta)
    (hs0 : starEach [Expr.Call (.Name "zip" p2) [e, e2] [] pos2] X.env = [(false, eval (.Call (.Name "zip" p2) [e, e2] [] pos2) X.env)] := by rfl)
    (hs : starEach [e, e2] X.env = (false, eval e X.env) :: starEach [e2] X.env := by rfl) (hpl : (backTo pos2 (starEach [e2] X.env)).any (·.1) = false := by rfl) :
    PI X (.Tuple elts kk tpos) (.Call (.Name "enumerate" p) [.Call (.Name "zip" p2) [e, e2] [] pos2] [] pos) (iEnZ X.K ta) := by
  refine ⟨fun pins s σ H R I h => ?_⟩
  refine Call_ (ld_blt I hg hm boot_enumerate (PyProof.Rows.callWith_type1 ?_ hs0 rfl))
  rw [hs0]
  show wpAny _ _ (spliced [(false, eval (.Call (.Name "zip" p2) [e, e2] [] pos2) X.env)]) _ _ s
  refine Calls.spliced_cons ?_
  refine Call_ (ld_blt I hg2 hm2 PyProof.Rows.boot_zip (PyProof.Rows.callWith_type1 (thn (ha.run pos2 pins s σ H _ I h) fun us s1 ⟨vs, H1, I1, r1, q1⟩ => ?_) hs hpl))
  obtain ⟨k1, k2, a, b, xs, ys, ex, hqx, hqy, q⟩ := q1
  subst ex
  cases r1 with
  | cons r rr =>
    cases rr with
    | cons r' rr =>
      cases rr
      cases r
      cases r'
      obtain ⟨its, rv, p1, l1⟩ := Sk.of_inv I1 hqx
      obtain ⟨its2, rv2, p2, l2⟩ := Sk.of_inv I1 hqy
      refine zip_begins2 (Sk.begins (k := k1) its.toArray) (Sk.begins (k := k2) its2.toArray) p1 p2 fun h' hz hTI hTO g1 g2 hsz hk => Calls.spliced_nil ?_
      refine enum_beginsZ (s := { s1 with heap := h' }) hz fun h2 he hk2 => ?_
      have hsz' : ({ s1 with heap := h' } : Shared).heap.objs.size = s1.heap.objs.size + 5 := hsz
      rw [hsz'] at he ⊢
      refine wpAny_pyIter_enum (s := { s1 with heap := h2 }) he ?_
      have I2 : Inv X pins σ H1 { s1 with heap := h2 } := I1.kept (t' := s1.toks) fun b o e => hk2 b o (hk b o e)
      refine ⟨s1.heap.objs.size + 5, [s1.heap.objs.size + 5, s1.heap.objs.size + 4, s1.heap.objs.size + 2, s1.heap.objs.size + 3, s1.heap.objs.size, s1.heap.objs.size + 1], _, _, H1, rfl, I2,
        turn_enumZ (k1 := k1) (k2 := k2) (k0 := 0) (zip_sep2 (fp1 := [a]) (fp2 := [b]) (by simpa using l1) (by simpa using l2)) (Nat.ne_of_lt l1) (Nat.ne_of_lt (Nat.lt_succ_of_lt l2)) ?_,
        ⟨⟨.none, by simpa using he⟩, ⟨.none, false, hk2 _ _ hz, .inl rfl⟩, hk2 _ _ hTI, ⟨_, _, hk2 _ _ hTO⟩, Sk.itr_at (Sk.itr0 g1) fun o q => hk2 _ _ q, Sk.itr_at (Sk.itr0 g2) fun o q => hk2 _ _ q⟩, fun c hcm => ?_, q⟩
      · generalize s1.heap.objs.size = N
        intro hc
        simp only [List.mem_cons, List.not_mem_nil, or_false] at hc
        rcases hc with q | q | q | q | q
        · exact absurd q (by show (N + 5 : Nat) ≠ N + 4; omega)
        · exact absurd q (by show (N + 5 : Nat) ≠ N + 2; omega)
        · exact absurd q (by show (N + 5 : Nat) ≠ N + 3; omega)
        · exact absurd q (by show (N + 5 : Nat) ≠ N; omega)
        · exact absurd q (by show (N + 5 : Nat) ≠ N + 1; omega)
      · have e' : c = s1.heap.objs.size + 5 ∨ c = s1.heap.objs.size + 4 ∨ c = s1.heap.objs.size + 2 ∨ c = s1.heap.objs.size + 3 ∨ c = s1.heap.objs.size ∨ c = s1.heap.objs.size + 1 := by simpa using hcm
        have hle : s1.heap.objs.size ≤ c := by
          rcases e' with z | z | z | z | z | z
          · rw [z]; exact Nat.le_add_right _ _
          · rw [z]; exact Nat.le_add_right _ _
          · rw [z]; exact Nat.le_add_right _ _
          · rw [z]; exact Nat.le_add_right _ _
          · rw [z]; exact Nat.le_refl _
          · rw [z]; exact Nat.le_add_right _ _
        exact I1.fpOk hle (I1.hok.fresh hle)
end
end Mi
-- MirB
set_option Elab.async false
set_option linter.all false
set_option maxRecDepth 100000
set_option maxHeartbeats 4000000
/-! sum, min, max, sorted over lists and tuples alike -/
namespace Mi
open PySem L2 PyProof.Rows PySem.Spec
open Sem (wp)
section
variable {prog : Program} {w : World} {A : Around} {E : Value → Shared → Prop} {s : Shared} {a : Addr} {k : Sk} {its : List Value} {ns : List Int} {Q : Value → Shared → Prop}
theorem walksK (hh : A.handled = none) {it : Addr} (hne : a ≠ it) (items : Array Value) : Walks prog w A it [it, a] [it] items.size (fun i v => items[i]? = some v) (fun i h => k.itr h it a i ∧ k.hd h a items) := by
  cases k with
  | l => exact Walks.list hh it a hne items
  | t => exact Walks.tuple hh it a hne items
theorem hd_lt {h : Heap} {items : Array Value} (q : k.hd h a items) : a < h.objs.size := by
  cases k with
  | l => obtain ⟨_, e, _⟩ := q; exact Heap.lt_size e
  | t => obtain ⟨_, e, _⟩ := q; exact Heap.lt_size e
theorem hd_at {h h' : Heap} {items : Array Value} (q : k.hd h a items) (f : ∀ o, h.get? a = some o → h'.get? a = some o) : k.hd h' a items := by
  cases k with
  | l => obtain ⟨o, e, r⟩ := q; exact ⟨o, f o e, r⟩
  | t => obtain ⟨o, e, r⟩ := q; exact ⟨o, f o e, r⟩
theorem pyIter_K {items : Array Value} (q : k.hd s.heap a items) (h : Q (.ref s.heap.objs.size) { s with heap := s.heap.push (k.ob a) }) : wpAny (model prog w) A (pyIter (.ref a)) Q E s := by
  cases k with
  | l => exact wpAny_pyIter_list q h
  | t => exact wpAny_pyIter_tuple q h
theorem iter_K {items : Array Value} (hl : k.hd s.heap a items)
    (h : ∀ s₂ : Shared, s₂ = { s with heap := s.heap.push (k.ob a) } →
      (k.itr s₂.heap s.heap.objs.size a 0 ∧ k.hd s₂.heap a items) → (∀ b ∈ [s.heap.objs.size, a], b < s₂.heap.objs.size) → a ≠ s.heap.objs.size → Q (.ref s.heap.objs.size) s₂) :
    wpAny (model prog w) A (pyIter (.ref a)) Q E s := by
  have hlt : a < s.heap.objs.size := hd_lt hl
  refine pyIter_K hl (h _ rfl ⟨Sk.itr0 (Heap.get?_push_size _ (Sk.free k a)), hd_at hl fun o e => Heap.get?_push_of_some _ e⟩ (fun b hb => ?_) (Nat.ne_of_lt hlt))
  show b < (s.heap.push _).objs.size
  rw [Heap.size_push]
  rcases List.mem_cons.mp hb with rfl | hb
  · exact Nat.lt_succ_self _
  · rcases List.mem_cons.mp hb with rfl | hb
    · exact Nat.lt_succ_of_lt hlt
    · cases hb
theorem old_keptK {o : Obj} {h' : Heap} (hk : ∀ b o', b ∉ [s.heap.objs.size] → (s.heap.push o).get? b = some o' → h'.get? b = some o') : ∀ b o', s.heap.get? b = some o' → h'.get? b = some o' := fun b o' e => by
  refine hk b o' (fun hm => ?_) (Heap.get?_push_of_some _ e)
  rcases List.mem_cons.mp hm with e1 | hm
  · exact absurd (e1 ▸ Heap.lt_size e) (Nat.lt_irrefl _)
  · cases hm
theorem max_K (hh : A.handled = none) (hl : k.hd s.heap a its.toArray) (hi : IntsAre its ns) (hne : 0 < ns.length)
    (h : ∀ h' tk M t', (∀ b o, s.heap.get? b = some o → h'.get? b = some o) → M ∈ ns → (∀ a, a ∈ ns → a ≤ M) → Q (.int M t') { s with heap := h', toks := tk }) : wpAny (model prog w) A (call (.builtin "max") [.ref a]) Q E s := by
  obtain ⟨xs, e⟩ := hi.allInts.items
  have hn : numsOf (intItems xs).toList = ns := by rw [← e]; exact hi.numsOf
  rw [nums_intItems] at hn
  subst hn
  rw [e] at hl
  have hsz : 0 < xs.size := by simpa using hne
  have hz : (intItems xs).size = xs.size := by simp [intItems]
  refine call_max_walk (iter_K hl fun s₂ e st hfp hlI => ?_)
  subst e
  refine ⟨_, _, _, _, _, _, _, rfl, walksK (k := k) (A := A.in1) hh hlI (intItems xs), st, hfp, by rw [hz]; exact hsz, CmpOf.ints_gt (numAt xs) (fun _ _ => intItems_at), fun v h' tk hv hk => ?_⟩
  rw [hz] at hv
  obtain ⟨t, rfl⟩ := intItems_at hv
  obtain ⟨h1, h2⟩ := argBest_gt (numAt xs) (xs.size - 1)
  refine h h' tk _ t (old_keptK hk) ?_ fun a ha => ?_
  · rw [numAt_eq]; exact PySem.getD_mem (by rw [List.length_map, Array.length_toList]; omega)
  · obtain ⟨j, hj, rfl⟩ := mem_getD ha
    rw [List.length_map, Array.length_toList] at hj
    rw [← numAt_eq]
    exact h2 j (by omega)
theorem min_K (hh : A.handled = none) (hl : k.hd s.heap a its.toArray) (hi : IntsAre its ns) (hne : 0 < ns.length)
    (h : ∀ h' tk M t', (∀ b o, s.heap.get? b = some o → h'.get? b = some o) → M ∈ ns → (∀ a, a ∈ ns → M ≤ a) → Q (.int M t') { s with heap := h', toks := tk }) : wpAny (model prog w) A (call (.builtin "min") [.ref a]) Q E s := by
  obtain ⟨xs, e⟩ := hi.allInts.items
  have hn : numsOf (intItems xs).toList = ns := by rw [← e]; exact hi.numsOf
  rw [nums_intItems] at hn
  subst hn
  rw [e] at hl
  have hsz : 0 < xs.size := by simpa using hne
  have hz : (intItems xs).size = xs.size := by simp [intItems]
  refine call_min_walk (iter_K hl fun s₂ e st hfp hlI => ?_)
  subst e
  refine ⟨_, _, _, _, _, _, _, rfl, walksK (k := k) (A := A.in1) hh hlI (intItems xs), st, hfp, by rw [hz]; exact hsz, CmpOf.ints_lt (numAt xs) (fun _ _ => intItems_at), fun v h' tk hv hk => ?_⟩
  rw [hz] at hv
  obtain ⟨t, rfl⟩ := intItems_at hv
  obtain ⟨h1, h2⟩ := argBest_lt (numAt xs) (xs.size - 1)
  refine h h' tk _ t (old_keptK hk) ?_ fun a ha => ?_
  · rw [numAt_eq]; exact PySem.getD_mem (by rw [List.length_map, Array.length_toList]; omega)
  · obtain ⟨j, hj, rfl⟩ := mem_getD ha
    rw [List.length_map, Array.length_toList] at hj
    rw [← numAt_eq]
    exact h2 j (by omega)
/-- what a list or a tuple holds, laid into a new list that is read off: one new object -/
theorem collect_K {Q : List Value → Shared → Prop} (hl : k.hd s.heap a its.toArray) (hz : its.length ≤ sizeLine)
    (h : ∀ h', (∀ b o', s.heap.get? b = some o' → h'.get? b = some o') → s.heap.objs.size ≤ h'.objs.size → Q its { s with heap := h' }) : wpAny (model prog w) A (collect (.ref a)) Q E s := by
  obtain ⟨T, o, n, hT, ho, hc, hd⟩ : ∃ (T : String) (o : Obj) (n : Nat), (T = "list" ∨ T = "tuple") ∧ s.heap.get? a = some o ∧ o.cls = .type T ∧ o.data = .seq its.toArray n := by
    cases k with
    | l => obtain ⟨o, ho, hc, n, hd⟩ := hl; exact ⟨"list", o, n, .inl rfl, ho, hc, hd⟩
    | t => obtain ⟨o, ho, hc, n, hd⟩ := hl; exact ⟨"tuple", o, n, .inr rfl, ho, hc, hd⟩
  let N := s.heap.objs.size
  let h1 : Heap := s.heap.push { cls := .type "list", data := .seq ([] : List Value).toArray }
  let h2 : Heap := h1.update N (Obj.mapSeq (· ++ its.toArray))
  have new1 : h1.get? N = some { cls := .type "list", data := .seq #[] 0 } := Heap.get?_push_size _ rfl
  have new2 := Heap.get?_update_self (Obj.mapSeq (· ++ its.toArray)) new1 rfl
  have back : wpAny (model prog w) A (match Value.ref N with
      | Value.ref l => do
        match (← load l).data with
          | Data.seq xs _ => pure xs.toList
          | _ => unsupported "internal:collect"
      | _ => unsupported "internal:collect") Q E { s with heap := h2 } := by
    refine wpAny_bind (wpAny_load new2 (wpAny_pure ?_))
    show Q ((#[] : Array Value) ++ its.toArray).toList _
    rw [show ((#[] : Array Value) ++ its.toArray).toList = its by simp]
    refine h h2 (fun b o' hb => ?_) (by show N ≤ (h1.update N _).objs.size; rw [Heap.size_update, Heap.size_push]; exact Nat.le_succ _)
    exact (Heap.get?_update_other _ _ (Nat.ne_of_gt (Heap.lt_size hb))).trans (Heap.get?_push_of_some _ hb)
  unfold collect
  refine wpAny_bind (wpAny_runValue (codeAny_builtin F.entry_proto_collect ?_))
  rw [Around.under_plainId F.plain_proto_collect _]
  refine wpAny_bind (wpAny_newObj_type (wpAny_pure ⟨plainId_quiet F.plain_list_iadd _, codeAny_builtin F.entry_list_iadd ?_⟩))
  rw [Around.under_plainId F.plain_list_iadd _]
  refine wpAny_mono (wpAny_extend_seq (hsz := by simpa using hz) (A := A) (R := fun r s' => r = .ok (.ret (.ref N)) ∧ s' = { s with heap := h2 }) (s := { s with heap := h1 }) _ a _ 0 hT new1 (Heap.get?_push_of_some _ ho) hc hd ⟨rfl, rfl⟩)
    (fun fin s' q => ?_) (fun e s' q => absurd q.1 (by simp))
  cases fin with
  | done f =>
    obtain ⟨e, rfl⟩ := q
    cases e
    exact back
  | again c' =>
    exact ⟨q.1, codeAny_mono q.2 fun r s2 hr => by
      obtain ⟨rfl, rfl⟩ := hr
      exact back⟩
/-- sorted(x): a new list -/
theorem sorted_K {ltv : Value → Value → Bool} (O : SrtO.Swo ltv) (hl : k.hd s.heap a its.toArray) (hz : its.length ≤ sizeLine)
    (hS : 2 ≤ its.length → ∀ (h₁ : Heap) (l : Addr), h₁.get? l = some (seqObj "list" its.toArray 0) → (∀ b o, s.heap.get? b = some o → b ≠ l ∧ h₁.get? b = some o) → SrtO.SortableO prog w A.in1.in1 { s with heap := h₁ } l its ltv)
    (h : ∀ (h' : Heap) (l : Addr) (out : List Value), SrtO.Srtd ltv out → SrtO.Stb ltv out its → (∀ b o, s.heap.get? b = some o → h'.get? b = some o) → s.heap.objs.size ≤ l → (∃ n, h'.get? l = some (seqObj "list" out.toArray n)) → Q (.ref l) { s with heap := h' }) :
    wpAny (model prog w) A (call (.builtin "sorted") [.ref a]) Q E s := by
  refine Calls.call_function_entry kind_sorted plain_sorted entry_sorted (args_sorted1 _) ?_
  unfold Builtin.«sorted»
  refine wpAny_bind (m := checkCount "sorted" 1 1 _) (wpAny_pure ?_)
  refine wpAny_bind (collect_K hl hz fun h1 hk hsz => ?_)
  refine wpAny_bind (wpAny_newList ?_ hz)
  have hoL : (h1.push (seqObj "list" its.toArray 0)).get? h1.objs.size = some (seqObj "list" its.toArray 0) := Heap.get?_push_size _ rfl
  have keep : ∀ b o, s.heap.get? b = some o → b ≠ h1.objs.size ∧ (h1.push (seqObj "list" its.toArray 0)).get? b = some o := fun b o q =>
    ⟨Nat.ne_of_lt (Heap.lt_size (hk b o q)), Heap.get?_push_of_some _ (hk b o q)⟩
  show wpAny _ _ _ _ _ { s with heap := h1.push (seqObj "list" its.toArray 0) }
  refine wpAny_bind (wpAny_holding (wpAny_call_entry slot_list_sort ⟨_, hoL, rfl⟩ entry_list_sort (SrtO.list_sort_ord (s := { s with heap := h1.push (seqObj "list" its.toArray 0) }) O hoL hz (fun h2 => hS h2 _ _ hoL keep) fun out hs hb => ⟨_, rfl, ?_⟩) (args_list_sort _)))
  exact wpAny_pure ⟨_, rfl, h _ _ out hs hb (fun b o q => sortedHeap_old (keep b o q).1 (Heap.lt_size (keep b o q).2) |>.trans (keep b o q).2) hsz (sortedHeap_at (vs := its) (out := out.toArray) hoL)⟩
end
end Mi
-- Mir7
set_option Elab.async false
set_option linter.all false
set_option maxRecDepth 100000
set_option maxHeartbeats 2000000
namespace Mi
open PySem L2 PyProof.Rows PySem.Spec
section
variable {X : Cx} {W : WX} {K : PySem.W.Frag} {H H' H1 H2 : Hp} {φ φ' φ1 φ2 : Ph} {hp hp' hp1 hp2 : Hs} {v : V} {d : D} {vs : List V} {ds xs : List D} {p : Addr} {σ : L2.St} {env env' : Env} {Q : VK}
/-! ### arithmetic -/
def gAdd (hp : Hs) (x y : D) : Option D := match look hp x, look hp y with
  | .int i, .int j => some (.int (i + j))
  | .str i, .str j => if i.length + j.length ≤ sizeLine then some (.str (i ++ j)) else none
  | .tup a, .tup b => if a.length + b.length ≤ sizeLine then some (.tup (a ++ b)) else none
  | .lst a, .lst b => if a.length + b.length ≤ sizeLine then some (.lst (a ++ b)) else none
  | _, _ => none
def rAddA (K : PySem.W.Frag) : R2 := fun x y H Q => rI0 (fun i j => .int (i + j)) x y H Q ∨ (∃ i j, x = .str i ∧ y = .str j ∧ i.length + j.length ≤ sizeLine ∧ Q (.str (i ++ j)) H) ∨ rCatD K x y H Q ∨ rCat x y H Q
theorem op_addA : OpR X (binaryOp .Add) (rAddA X.K) := op_add.or (op_add_str.or (op_catD.or op_cat))
theorem os_add : OpS X (rAddA X.K) gAdd := fun H φ hp x y d1 d2 d s r1 r2 h Q F => by
  unfold gAdd at h
  split at h
  · rename_i i j e1 e2
    cases h
    obtain rfl := rep_int s r1 e1
    obtain rfl := rep_int s r2 e2
    exact .inl ⟨i, j, rfl, rfl, F H Ext.refl s _ (.int _)⟩
  · rename_i i j e1 e2
    split at h <;> cases h
    rename_i hl
    obtain rfl := rep_str s r1 e1
    obtain rfl := rep_str s r2 e2
    exact .inr (.inl ⟨i, j, rfl, rfl, hl, F H Ext.refl s _ (.str _)⟩)
  · rename_i a b e1 e2
    split at h <;> cases h
    rename_i hl
    obtain ⟨p, us, rfl, h1, q1⟩ := rep_tup s r1 e1
    obtain ⟨q, ws, rfl, h2, q2⟩ := rep_tup s r2 e2
    refine .inr (.inr (.inl ⟨p, q, us, ws, rfl, rfl, h1.sq, h2.sq, by rw [q1.length, q2.length]; exact hl, fun e => ?_, fun _ e => ?_, fun _ _ t ob ht hb => ?_⟩))
    · subst e
      cases q1
      exact F H Ext.refl s _ (.tup h2 q2)
    · subst e
      cases q2
      exact F H Ext.refl s _ (.tup h1 (by rw [List.append_nil]; exact q1))
    · obtain ⟨a1, a2, a3⟩ := new_tup s (q1.append q2) ht hb
      exact F _ a1 a2 _ a3
  · rename_i a b e1 e2
    split at h <;> cases h
    rename_i hl
    obtain ⟨p, us, rfl, h1, q1⟩ := rep_lst s r1 e1
    obtain ⟨q, ws, rfl, h2, q2⟩ := rep_lst s r2 e2
    refine .inr (.inr (.inr ⟨p, q, us, ws, rfl, rfl, h1, h2, by rw [q1.length, q2.length]; exact hl, fun t ht => ?_⟩))
    obtain ⟨a1, a2, a3⟩ := new_lst s (q1.append q2) ht
    exact F _ a1 a2 _ a3
  · cases h
def gI2 (C : Int → Int → Bool) (f : Int → Int → D) (hp : Hs) (x y : D) : Option D := match look hp x, look hp y with
  | .int i, .int j => if C i j = true then some (f i j) else none
  | _, _ => none
theorem os_I2 {C : Int → Int → Bool} {f : Int → Int → D} {C' : Int → Int → Prop} {g : Int → Int → V} (hC : ∀ i j, C i j = true → C' i j) (hg : ∀ i j K H φ hp, Rep K H φ hp (g i j) (f i j)) : OpS X (rI C' g) (gI2 C f) := fun H φ hp x y d1 d2 d s r1 r2 h Q F => by
  unfold gI2 at h
  split at h
  · rename_i i j e1 e2
    split at h <;> cases h
    rename_i hc
    obtain rfl := rep_int s r1 e1
    obtain rfl := rep_int s r2 e2
    exact ⟨i, j, rfl, rfl, hC i j hc, F H Ext.refl s _ (hg i j _ _ _ _)⟩
  · cases h
def gSub : Hs → D → D → Option D := gI2 (fun _ _ => true) fun i j => .int (i - j)
theorem rI_of0 {g : Int → Int → V} : OpR X f (rI0 g) → OpR X f (rI (fun _ _ => True) g) := fun h pins s σ H x y v u Q I rx ry q => by
  obtain ⟨i, j, e1, e2, _, q⟩ := q
  exact h pins s σ H x y v u Q I rx ry ⟨i, j, e1, e2, q⟩
theorem op_subA : OpR X (binaryOp .Sub) (rI (fun _ _ => True) fun i j => .int (i - j)) := rI_of0 op_sub
theorem os_sub : OpS X (rI (fun _ _ => True) fun i j => V.int (i - j)) gSub := os_I2 (fun _ _ _ => trivial) fun _ _ _ _ _ _ => .int _
def mulOk (i j : Int) : Bool := decide (i.natAbs.log2 + j.natAbs.log2 < 1000000)
/-- x * y: ints; a list or a tuple some times -/
def gMul (hp : Hs) (x y : D) : Option D := match look hp x, look hp y with
  | .int i, .int j => if mulOk i j = true then some (.int (i * j)) else none
  | .lst a, .int j => if -(2 ^ 63) ≤ j ∧ j < 2 ^ 63 ∧ a.length * j.toNat ≤ sizeLine then some (.lst (List.replicate j.toNat a).flatten) else none
  | .tup a, .int j => if -(2 ^ 63) ≤ j ∧ j ≤ 1000 ∧ a.length ≤ 1000 then some (.tup (List.replicate j.toNat a).flatten) else none
  | _, _ => none
def rMulA (K : PySem.W.Frag) : R2 := fun x y H Q => rI CMulW (fun i j => .int (i * j)) x y H Q ∨ rRep x y H Q ∨ rRepD K x y H Q
theorem op_mulA : OpR X (binaryOp .Mult) (rMulA X.K) := op_mulW.or (op_rep.or op_repD)
theorem reps_replicate {n : Nat} (r : Reps K H φ hp vs xs) : Reps K H φ hp (List.replicate n vs).flatten (List.replicate n xs).flatten := by
  induction n with
  | zero => exact .nil
  | succ n ih => simp only [List.replicate_succ, List.flatten_cons]; exact r.append ih
theorem os_mul : OpS X (rMulA X.K) gMul := fun H φ hp x y d1 d2 d s r1 r2 h Q F => by
  unfold gMul at h
  split at h
  · rename_i i j e1 e2
    split at h <;> cases h
    rename_i hc
    obtain rfl := rep_int s r1 e1
    obtain rfl := rep_int s r2 e2
    exact .inl ⟨i, j, rfl, rfl, (show i.natAbs.log2 + j.natAbs.log2 < 1000000 from of_decide_eq_true hc), F H Ext.refl s _ (.int _)⟩
  · rename_i a j e1 e2
    split at h <;> cases h
    rename_i hc
    obtain ⟨p, us, rfl, h1, q1⟩ := rep_lst s r1 e1
    obtain rfl := rep_int s r2 e2
    refine .inr (.inl ⟨p, j, us, rfl, rfl, h1, hc.1, hc.2.1, by rw [q1.length]; exact hc.2.2, fun t ht => ?_⟩)
    obtain ⟨a1, a2, a3⟩ := new_lst s (reps_replicate (n := j.toNat) q1) ht
    exact F _ a1 a2 _ a3
  · rename_i a j e1 e2
    split at h <;> cases h
    rename_i hc
    obtain ⟨p, us, rfl, h1, q1⟩ := rep_tup s r1 e1
    obtain rfl := rep_int s r2 e2
    refine .inr (.inr ⟨p, j, us, rfl, rfl, h1.sq, hc.1, hc.2.1, by rw [q1.length]; exact hc.2.2, fun c1 => F H Ext.refl s _ ?_, fun c1 t ob ht hb => ?_⟩)
    · have e : (List.replicate j.toNat a).flatten = a := by
        rcases c1 with rfl | rfl
        · have : a = [] := List.eq_nil_of_length_eq_zero q1.length.symm
          subst this
          simp
        · simp
      rw [e]
      exact .tup h1 q1
    · obtain ⟨a1, a2, a3⟩ := new_tup s (reps_replicate (n := j.toNat) q1) ht hb
      exact F _ a1 a2 _ a3
  · cases h
def divOk (_ j : Int) : Bool := decide (0 < j) && decide (j.natAbs.log2 < 9000)
def gDiv : Hs → D → D → Option D := gI2 divOk fun i j => .int (i / j)
theorem os_div : OpS X (rI CDivW fun i j => V.int (i / j)) gDiv := os_I2 (fun i j h => by
  unfold divOk at h; simp only [Bool.and_eq_true, decide_eq_true_eq] at h; exact h) fun _ _ _ _ _ _ => .int _
def gMod : Hs → D → D → Option D := gI2 (fun _ j => decide (0 < j)) fun i j => .int (i % j)
theorem os_mod : OpS X (rI (fun _ j => 0 < j) fun i j => V.int (i % j)) gMod := os_I2 (fun i j h => of_decide_eq_true h) fun _ _ _ _ _ _ => .int _
def powOk (i j : Int) : Bool := decide (0 ≤ j) && decide (j ≤ 1000000) && decide (i.natAbs < 2 ^ 64)
def gPow : Hs → D → D → Option D := gI2 powOk fun i j => .int (i ^ j.toNat)
theorem os_pow : OpS X (rI CPow fun i j => V.int (i ^ j.toNat)) gPow := os_I2 (fun i j h => by
  unfold powOk at h; simp only [Bool.and_eq_true, decide_eq_true_eq] at h; exact ⟨h.1.1, h.1.2, h.2⟩) fun _ _ _ _ _ _ => .int _
def gNeg (hp : Hs) (x : D) : Option D := match look hp x with
  | .int i => some (.int (-i))
  | _ => none
theorem de_neg {a : Expr} {ma : M D} {pos : Pos} (ha : DE X W a ma) : DE X W (.UnaryOp .USub a pos) (mUn gNeg ma) := by
  obtain ⟨ta, pa, ka⟩ := ha
  refine ⟨_, pe_un un_neg pa, fun σ H φ env hp o hp' s l h Q F => ?_⟩
  refine te_stepG ka s l h F.exc fun x hp1 H1 φ1 v h1 s1 l1 r1 y1 => ?_
  obtain ⟨d, e, rfl, rfl⟩ := lft_ok h1
  unfold gNeg at e
  split at e <;> cases e
  rename_i i e1
  obtain rfl := rep_int s1 r1 e1
  exact ⟨i, rfl, F H1 φ1 y1 s1 _ (.int _)⟩
/-! ### order -/
def ltS (a b : Str) : Bool := decide (a.cps.toList < b.cps.toList)
def ints? : List D → Option (List Int)
  | [] => some []
  | .int i :: ds => match ints? ds with
    | some ns => some (i :: ns)
    | none => none
  | _ :: _ => none
@[simp] theorem ints_map (ns : List Int) : ints? (ns.map D.int) = some ns := by
  induction ns with
  | nil => rfl
  | cons n ns ih => simp [ints?, ih]
theorem ints_of : ∀ {ds : List D} {ns : List Int}, ints? ds = some ns → ds = ns.map D.int
  | [], _, h => by cases h; rfl
  | .int i :: ds, ns, h => by
    unfold ints? at h
    split at h
    · rename_i ms e
      cases h
      rw [ints_of e]; rfl
    · cases h
  | .non :: _, _, h => by cases h
  | .bl _ :: _, _, h => by cases h
  | .str _ :: _, _, h => by cases h
  | .tup _ :: _, _, h => by cases h
  | .itm _ :: _, _, h => by cases h
  | .lst _ :: _, _, h => by cases h
  | .frz _ :: _, _, h => by cases h
  | .dic _ _ :: _, _, h => by cases h
  | .dct _ _ :: _, _, h => by cases h
  | .adr _ _ :: _, _, h => by cases h
  | .exc _ _ :: _, _, h => by cases h
  | .ty _ :: _, _, h => by cases h
  | .loc _ :: _, _, h => by cases h
def gLt (hp : Hs) (x y : D) : Option D := match look hp x, look hp y with
  | .int i, .int j => some (.bl (decide (i < j)))
  | .str i, .str j => some (.bl (ltS i j))
  | .tup a, .tup b => match ints? a, ints? b with
    | some ns, some ms => some (.bl (HT.lexLt ns ms))
    | _, _ => none
  | _, _ => none
def gGt (hp : Hs) (x y : D) : Option D := match look hp x, look hp y with
  | .int i, .int j => some (.bl (decide (j < i)))
  | .str i, .str j => some (.bl (ltS j i))
  | _, _ => none
def gLe (hp : Hs) (x y : D) : Option D := match look hp x, look hp y with
  | .int i, .int j => some (.bl (decide (i ≤ j)))
  | .str i, .str j => some (.bl (!ltS j i))
  | _, _ => none
def gGe (hp : Hs) (x y : D) : Option D := match look hp x, look hp y with
  | .int i, .int j => some (.bl (decide (j ≤ i)))
  | .str i, .str j => some (.bl (!ltS i j))
  | _, _ => none
def rS2 (f : Str → Str → Bool) : R2 := fun x y H Q => ∃ i j, x = .str i ∧ y = .str j ∧ Q (.bl (f i j)) H
def rLtA (K : PySem.W.Frag) : R2 := fun x y H Q => rI0 (fun i j => .bl (decide (i < j))) x y H Q ∨ rS2 ltS x y H Q ∨ rLtT K x y H Q
theorem op_ltA (hu : X.A.units + 64 < cLine) : OpR X (compareOp .Lt) (rLtA X.K) := op_lt.or ((show OpR X (compareOp .Lt) (rS2 ltS) from op_lt_str).or (op_ltT (by omega)))
theorem os_lt : OpS X (rLtA X.K) gLt := fun H φ hp x y d1 d2 d s r1 r2 h Q F => by
  unfold gLt at h
  split at h
  · rename_i i j e1 e2
    cases h
    obtain rfl := rep_int s r1 e1
    obtain rfl := rep_int s r2 e2
    exact .inl ⟨i, j, rfl, rfl, F H Ext.refl s _ (.bl _)⟩
  · rename_i i j e1 e2
    cases h
    obtain rfl := rep_str s r1 e1
    obtain rfl := rep_str s r2 e2
    exact .inr (.inl ⟨i, j, rfl, rfl, F H Ext.refl s _ (.bl _)⟩)
  · rename_i a b e1 e2
    split at h
    · rename_i ns ms h1 h2
      cases h
      obtain rfl := ints_of h1
      obtain rfl := ints_of h2
      obtain ⟨p, us, rfl, q1, w1⟩ := rep_tup s r1 e1
      obtain ⟨q, ws, rfl, q2, w2⟩ := rep_tup s r2 e2
      obtain rfl := w1.ints
      obtain rfl := w2.ints
      exact .inr (.inr ⟨p, q, ns, ms, rfl, rfl, q1.sq, q2.sq, F H Ext.refl s _ (.bl _)⟩)
    · cases h
  · cases h
theorem os_IS {f : Int → Int → Bool} {g : Str → Str → Bool} {gg : Hs → D → D → Option D} (hg : ∀ hp x y, gg hp x y = match look hp x, look hp y with
  | .int i, .int j => some (.bl (f i j))
  | .str i, .str j => some (.bl (g i j))
  | _, _ => none) : OpS X (fun x y H Q => rI0 (fun i j => .bl (f i j)) x y H Q ∨ rS2 g x y H Q) gg := fun H φ hp x y d1 d2 d s r1 r2 h Q F => by
  rw [hg] at h
  split at h
  · rename_i i j e1 e2
    cases h
    obtain rfl := rep_int s r1 e1
    obtain rfl := rep_int s r2 e2
    exact .inl ⟨i, j, rfl, rfl, F H Ext.refl s _ (.bl _)⟩
  · rename_i i j e1 e2
    cases h
    obtain rfl := rep_str s r1 e1
    obtain rfl := rep_str s r2 e2
    exact .inr ⟨i, j, rfl, rfl, F H Ext.refl s _ (.bl _)⟩
  · cases h
def rIS (f : Int → Int → Bool) (g : Str → Str → Bool) : R2 := fun x y H Q => rI0 (fun i j => .bl (f i j)) x y H Q ∨ rS2 g x y H Q
theorem op_gtA : OpR X (compareOp .Gt) (rIS (fun i j => decide (j < i)) fun i j => ltS j i) := op_gt.or (show OpR X (compareOp .Gt) (rS2 fun i j => ltS j i) from op_gt_str)
theorem os_gt : OpS X (rIS (fun i j => decide (j < i)) fun i j => ltS j i) gGt := os_IS fun _ _ _ => rfl
theorem op_geA : OpR X (compareOp .GtE) (rIS (fun i j => decide (j ≤ i)) fun i j => !ltS i j) := op_ge.or (show OpR X (compareOp .GtE) (rS2 fun i j => !ltS i j) from op_ge_str)
theorem os_ge : OpS X (rIS (fun i j => decide (j ≤ i)) fun i j => !ltS i j) gGe := os_IS fun _ _ _ => rfl
/-! ### data as the library tells them -/
mutual
def D.py : D → Option PyData
  | .non => some .none
  | .bl b => some (.bool b)
  | .int i => some (.int i)
  | .str x => some (.str x)
  | .tup xs => match D.pyAll xs with
    | some ps => some (.tuple ps)
    | none => none
  | .itm _ => none
  | .lst xs => match D.pyAll xs with
    | some ps => some (.list ps)
    | none => none
  | .frz xs => match D.pyAll xs with
    | some ps => some (.list ps)
    | none => none
  | .dic _ _ => none
  | .dct _ _ => none
  | .adr _ _ => none
  | .exc _ _ => none
  | .ty _ => none
  | .loc _ => none
def D.pyAll : List D → Option (List PyData)
  | [] => some []
  | d :: ds => match D.py d, D.pyAll ds with
    | some p, some ps => some (p :: ps)
    | _, _ => none
end
mutual
theorem Rep.dp : ∀ {d : D} {v : V} {q : PyData}, Rep K H φ hp v d → d.py = some q → Dp K H v q
  | .non, _, _, r, h => by cases r; cases h; exact .non
  | .bl b, _, _, r, h => by cases r; cases h; exact .bl b
  | .int b, _, _, r, h => by cases r; cases h; exact .int b
  | .str b, _, _, r, h => by cases r; cases h; exact .str b
  | .tup xs, _, _, r, h => by
    unfold D.py at h
    split at h <;> cases h
    rename_i ps e
    cases r with | tup a b => exact .tup a.sq (Reps.dp b e)
  | .itm _, _, _, r, h => by cases h
  | .lst xs, _, _, r, h => by
    unfold D.py at h
    split at h <;> cases h
    rename_i ps e
    cases r with | lst a _ b => exact .lst (SqL.of a) (Reps.dp b e)
  | .frz xs, _, _, r, h => by
    unfold D.py at h
    split at h <;> cases h
    rename_i ps e
    cases r with | frz a b => exact .lst a.sq (Reps.dp b e)
  | .dic _ _, _, _, r, h => by cases h
  | .dct _ _, _, _, r, h => by cases h
  | .adr _ _, _, _, r, h => by cases h
  | .exc _ _, _, _, r, h => by cases h
  | .ty _, _, _, r, h => by cases h
  | .loc _, _, _, r, h => by cases h
theorem Reps.dp : ∀ {ds : List D} {vs : List V} {q : List PyData}, Reps K H φ hp vs ds → D.pyAll ds = some q → DpAll K H vs q
  | [], _, _, r, h => by cases r; cases h; exact .nil
  | d :: ds, _, _, r, h => by
    unfold D.pyAll at h
    split at h <;> cases h
    rename_i p ps e1 e2
    cases r with | cons a b => exact .cons (Rep.dp a e1) (Reps.dp b e2)
end
theorem look_loc_cases (hp : Hs) (n : Nat) : (∃ xs, hp[n]? = some (some (.lst xs)) ∧ look hp (.loc n) = .lst xs) ∨ (∃ ks xs, hp[n]? = some (some (.dic ks xs)) ∧ look hp (.loc n) = .dic ks xs) ∨
    (∃ ks xs, hp[n]? = some (some (.dct ks xs)) ∧ look hp (.loc n) = .dct ks xs) ∨ look hp (.loc n) = .loc n := by
  cases h : hp[n]? with
  | none => exact .inr (.inr (.inr (by simp [look, h])))
  | some o =>
    cases o with
    | none => exact .inr (.inr (.inr (by simp [look, h])))
    | some o =>
      cases o with
      | lst xs => exact .inl ⟨xs, rfl, by simp [look, h]⟩
      | dic ks xs => exact .inr (.inl ⟨ks, xs, rfl, by simp [look, h]⟩)
      | dct ks xs => exact .inr (.inr (.inr (by simp [look, h])))
      | lkd ks xs => exact .inr (.inr (.inr (by simp [look, h])))
      | ins C fs xs => exact .inr (.inr (.inr (by simp [look, h])))
theorem look_dp {q : PyData} (s : SR K H φ hp) (r : Rep K H φ hp v d) (e : (look hp d).py = some q) : Dp K H v q := by
  cases d <;> first | exact r.dp e | skip
  rename_i n
  rcases look_loc_cases hp n with ⟨ys, h, h2⟩ | ⟨ks, ys, h, h2⟩ | ⟨ks, ys, h, h2⟩ | h2 <;> rw [h2] at e
  · cases r
    cases s.obs n _ h with
    | lst a b =>
      unfold D.py at e
      split at e <;> cases e
      rename_i ps e2
      exact .lst (SqL.of a) (b.dp e2)
  · cases e
  · cases e
  · cases e
/-- == -/
def eqD (hp : Hs) (x y : D) : Option Bool := match look hp x, look hp y with
  | .int i, .int j => some (decide (i = j))
  | .str i, .str j => some (decide (i = j))
  | .bl i, .bl j => some (decide (i = j))
  | .non, .non => some true
  | a, b => match a.py, b.py with
    | some p, some q => if SeqAt.shaped p = true ∧ SeqAt.shaped q = true then some (PyData.eqv p q) else none
    | _, _ => none
def gEq (hp : Hs) (x y : D) : Option D := match eqD hp x y with
  | some b => some (.bl b)
  | none => none
def gNe (hp : Hs) (x y : D) : Option D := match eqD hp x y with
  | some b => some (.bl (!b))
  | none => none
def rEqA (K : PySem.W.Frag) : R2 := fun x y H Q => rEq x y H Q ∨ rEqD K x y H Q
def rNeA (K : PySem.W.Frag) : R2 := fun x y H Q => rNe x y H Q ∨ rNeD K x y H Q
theorem op_eqA (hu : X.A.units + 64 < cLine) : OpR X (compareOp .Eq) (rEqA X.K) := op_eq.or (op_eqD hu)
theorem op_neA (hu : X.A.units + 64 < cLine) : OpR X (compareOp .NotEq) (rNeA X.K) := op_ne.or (op_neD hu)
theorem eqD_ok {x y : V} {d1 d2 : D} {b : Bool} (s : SR K H φ hp) (r1 : Rep K H φ hp x d1) (r2 : Rep K H φ hp y d2) (h : eqD hp d1 d2 = some b) :
    (scal x y = true ∧ decide (x = y) = b) ∨ ∃ p q, Dp K H x p ∧ Dp K H y q ∧ SeqAt.shaped p = true ∧ SeqAt.shaped q = true ∧ PyData.eqv p q = b := by
  unfold eqD at h
  split at h
  · rename_i i j e1 e2
    cases h
    obtain rfl := rep_int s r1 e1
    obtain rfl := rep_int s r2 e2
    exact .inl ⟨rfl, by simp⟩
  · rename_i i j e1 e2
    cases h
    obtain rfl := rep_str s r1 e1
    obtain rfl := rep_str s r2 e2
    exact .inl ⟨rfl, by simp⟩
  · rename_i i j e1 e2
    cases h
    obtain rfl := rep_bl s r1 e1
    obtain rfl := rep_bl s r2 e2
    exact .inl ⟨rfl, by simp⟩
  · rename_i e1 e2
    cases h
    obtain rfl := rep_non s r1 e1
    obtain rfl := rep_non s r2 e2
    exact .inr ⟨.none, .none, .non, .non, by decide, by decide, by decide⟩
  · split at h
    · rename_i p q e1 e2
      split at h <;> cases h
      rename_i hs
      exact .inr ⟨p, q, look_dp s r1 e1, look_dp s r2 e2, hs.1, hs.2, rfl⟩
    · cases h
theorem os_eq : OpS X (rEqA X.K) gEq := fun H φ hp x y d1 d2 d s r1 r2 h Q F => by
  unfold gEq at h
  split at h <;> cases h
  rename_i b e
  rcases eqD_ok s r1 r2 e with ⟨h1, h2⟩ | ⟨p, q, a1, a2, a3, a4, a5⟩
  · exact .inl ⟨h1, by rw [h2]; exact F H Ext.refl s _ (.bl _)⟩
  · exact .inr ⟨p, q, a1, a2, a3, a4, by rw [a5]; exact F H Ext.refl s _ (.bl _)⟩
theorem os_ne : OpS X (rNeA X.K) gNe := fun H φ hp x y d1 d2 d s r1 r2 h Q F => by
  unfold gNe at h
  split at h <;> cases h
  rename_i b e
  rcases eqD_ok s r1 r2 e with ⟨h1, h2⟩ | ⟨p, q, a1, a2, a3, a4, a5⟩
  · exact .inl ⟨h1, by rw [h2]; exact F H Ext.refl s _ (.bl _)⟩
  · exact .inr ⟨p, q, a1, a2, a3, a4, by rw [a5]; exact F H Ext.refl s _ (.bl _)⟩
/-- is None -/
def isNon (hp : Hs) (x : D) : Bool := match look hp x with
  | .non => true
  | _ => false
theorem isNon_ok {x : V} (s : SR K H φ hp) (r : Rep K H φ hp x d) : decide (x = .non) = isNon hp d := by
  cases r with
  | loc h =>
    rename_i n
    unfold isNon
    rcases look_loc_cases hp n with ⟨ys, h, h2⟩ | ⟨ks, ys, h, h2⟩ | ⟨ks, ys, h, h2⟩ | h2 <;> rw [h2] <;> simp
  | _ => simp [isNon]
def gIsN (hp : Hs) (x y : D) : Option D := match y with
  | .non => some (.bl (isNon hp x))
  | _ => none
def gNotN (hp : Hs) (x y : D) : Option D := match y with
  | .non => some (.bl (!isNon hp x))
  | _ => none
theorem os_isN : OpS X (fun x y H Q => y = .non ∧ Q (.bl (decide (x = .non))) H) gIsN := fun H φ hp x y d1 d2 d s r1 r2 h Q F => by
  unfold gIsN at h
  split at h <;> cases h
  cases r2
  exact ⟨rfl, by rw [isNon_ok s r1]; exact F H Ext.refl s _ (.bl _)⟩
theorem os_notN : OpS X (fun x y H Q => y = .non ∧ Q (.bl (!decide (x = .non))) H) gNotN := fun H φ hp x y d1 d2 d s r1 r2 h Q F => by
  unfold gNotN at h
  split at h <;> cases h
  cases r2
  exact ⟨rfl, by rw [isNon_ok s r1]; exact F H Ext.refl s _ (.bl _)⟩
/-! ### subscripts -/
def gIx (hp : Hs) (x y : D) : Option D := match look hp x, look hp y with
  | .lst xs, .int i => atI xs i
  | .frz xs, .int i => atI xs i
  | .tup xs, .int i => atI xs i
  | .str z, .int i => if z.length ≤ sizeLine then match atI z.cps.toList i with
    | some c => some (.str ⟨#[c]⟩)
    | none => none
    else none
  | _, _ => none
theorem atI_rep {xs : List D} {i : Int} (r : Reps K H φ hp vs xs) (h : atI xs i = some d) : ∃ v, atI vs i = some v ∧ Rep K H φ hp v d := by
  unfold atI at h ⊢
  rw [r.length]
  cases e : ixN xs.length i with
  | none => rw [e] at h; cases h
  | some j =>
    rw [e] at h
    exact r.get h
theorem os_ix : OpS X (rIx X.K) gIx := fun H φ hp x y d1 d2 d s r1 r2 h Q F => by
  unfold gIx at h
  split at h
  · rename_i xs i e1 e2
    obtain rfl := rep_int s r2 e2
    obtain ⟨p, us, rfl, q, w⟩ := rep_lst s r1 e1
    obtain ⟨v, ev, rv⟩ := atI_rep w h
    exact .inl ⟨p, us, i, v, rfl, rfl, SqL.of q, ev, F H Ext.refl s v rv⟩
  · rename_i xs i e1 e2
    obtain rfl := rep_int s r2 e2
    obtain ⟨p, us, rfl, q, w⟩ := rep_frz s r1 e1
    obtain ⟨v, ev, rv⟩ := atI_rep w h
    exact .inl ⟨p, us, i, v, rfl, rfl, q, ev, F H Ext.refl s v rv⟩
  · rename_i xs i e1 e2
    obtain rfl := rep_int s r2 e2
    obtain ⟨p, us, rfl, q, w⟩ := rep_tup s r1 e1
    obtain ⟨v, ev, rv⟩ := atI_rep w h
    exact .inr (.inl ⟨p, us, i, v, rfl, rfl, q.sq, ev, F H Ext.refl s v rv⟩)
  · rename_i z i e1 e2
    split at h
    · rename_i hz
      split at h <;> cases h
      rename_i c hc
      obtain rfl := rep_int s r2 e2
      obtain rfl := rep_str s r1 e1
      exact .inr (.inr ⟨z, i, c, rfl, rfl, hz, hc, F H Ext.refl s _ (.str _)⟩)
    · cases h
  · cases h
/-- slices -/
def cutD (xs : List D) (lo hi : Option Int) : List D := (xs.drop (HT.sIx xs.length 0 lo)).take (HT.sIx xs.length xs.length hi - HT.sIx xs.length 0 lo)
theorem cut_rep {lo hi : Option Int} (r : Reps K H φ hp vs xs) : Reps K H φ hp (cutV vs lo hi) (cutD xs lo hi) := by
  unfold cutV cutD
  rw [r.length]
  exact (r.drop _).take _
def gSl (hp : Hs) (x : D) (lo hi : Option Int) : Option D := match look hp x with
  | .lst xs => some (.lst (cutD xs lo hi))
  | .frz xs => some (.lst (cutD xs lo hi))
  | .tup xs => some (.tup (cutD xs lo hi))
  | .str z => if z.length ≤ sizeLine then some (.str (cutS z lo hi)) else none
  | _ => none
def rSlAll (K : PySem.W.Frag) : V → Option Int → Option Int → Hp → VK → Prop := fun x lo hi H Q => rSlL K x lo hi H Q ∨ rSlD K x lo hi H Q ∨ rSlS x lo hi H Q
theorem sl_all : SlR X (rSlAll X.K) := sl_list.or (sl_tupD.or sl_str)
theorem cutV_whole {lo hi : Option Int} {n : Nat} (h : n = vs.length) (h0 : HT.sIx n 0 lo = 0) (h1 : HT.sIx n n hi = n) : cutV vs lo hi = vs := by
  subst h
  unfold cutV
  rw [h0, h1]
  simp
theorem ss_all {Y : Cx} : SlS Y (rSlAll Y.K) gSl := fun H φ hp x d1 lo hi d s r1 h Q F => by
  unfold gSl at h
  split at h
  · rename_i xs e1
    cases h
    obtain ⟨p, us, rfl, q, w⟩ := rep_lst s r1 e1
    refine .inl ⟨p, us, rfl, SqL.of q, fun t ht => ?_⟩
    obtain ⟨a1, a2, a3⟩ := new_lst s (cut_rep (lo := lo) (hi := hi) w) ht
    exact F _ a1 a2 _ a3
  · rename_i xs e1
    cases h
    obtain ⟨p, us, rfl, q, w⟩ := rep_frz s r1 e1
    refine .inl ⟨p, us, rfl, q, fun t ht => ?_⟩
    obtain ⟨a1, a2, a3⟩ := new_lst s (cut_rep (lo := lo) (hi := hi) w) ht
    exact F _ a1 a2 _ a3
  · rename_i xs e1
    cases h
    obtain ⟨p, us, rfl, q, w⟩ := rep_tup s r1 e1
    refine .inr (.inl ⟨p, us, rfl, q.sq, fun hw => ?_, fun _ t ob ht hb => ?_⟩)
    · refine F H Ext.refl s _ (.tup q ?_)
      have z := cut_rep (lo := lo) (hi := hi) w
      rw [cutV_whole rfl hw.1 hw.2] at z
      exact z
    · obtain ⟨a1, a2, a3⟩ := new_tup s (cut_rep (lo := lo) (hi := hi) w) ht hb
      exact F _ a1 a2 _ a3
  · rename_i z e1
    split at h <;> cases h
    rename_i hz
    obtain rfl := rep_str s r1 e1
    exact .inr (.inr ⟨z, rfl, hz, F H Ext.refl s _ (.str _)⟩)
  · cases h
end
end Mi
-- Mir8
set_option Elab.async false
set_option linter.all false
set_option maxRecDepth 100000
set_option maxHeartbeats 2000000
namespace Mi
open PySem L2 PyProof.Rows PySem.Spec
/-! ### new rules of the layer, over lists and tuples alike -/
section
variable {X : Cx}
def rMaxK (K : PySem.W.Frag) : List V → Hp → VK → Prop := fun vs H Q => ∃ (k : Sk) (a : Addr) (ns : List Int), vs = [V.ref a] ∧ k.at_ K H a (ns.map V.int) ∧ 0 < ns.length ∧ ∀ m, m ∈ ns → (∀ y, y ∈ ns → y ≤ m) → Q (.int m) H
def rMinK (K : PySem.W.Frag) : List V → Hp → VK → Prop := fun vs H Q => ∃ (k : Sk) (a : Addr) (ns : List Int), vs = [V.ref a] ∧ k.at_ K H a (ns.map V.int) ∧ 0 < ns.length ∧ ∀ m, m ∈ ns → (∀ y, y ∈ ns → m ≤ y) → Q (.int m) H
theorem cr_maxK (hc : X.calm = true) : CallR X (.builtin "max") (rMaxK X.K) := by
  intro pins s σ H vs us Q I r h
  obtain ⟨k, a, ns, rfl, hs, hne, q⟩ := h
  obtain ⟨its, rv, hl, _⟩ := Sk.of_inv I hs
  rw [Vals.ref1 r]
  exact max_K (I.ok.hd hc) hl rv.ints hne fun h' tk m t' hk h1 h2 => ⟨.int _, H, I.kept hk, ⟨_, rfl⟩, q m h1 h2⟩
theorem cr_minK (hc : X.calm = true) : CallR X (.builtin "min") (rMinK X.K) := by
  intro pins s σ H vs us Q I r h
  obtain ⟨k, a, ns, rfl, hs, hne, q⟩ := h
  obtain ⟨its, rv, hl, _⟩ := Sk.of_inv I hs
  rw [Vals.ref1 r]
  exact min_K (I.ok.hd hc) hl rv.ints hne fun h' tk m t' hk h1 h2 => ⟨.int _, H, I.kept hk, ⟨_, rfl⟩, q m h1 h2⟩
theorem at_line {pins : List (Addr × Obj)} {σ : L2.St} {H : Hp} {s : Shared} {k : Sk} {a : Addr} {xs : List V} (I : Inv X pins σ H s) (h : k.at_ X.K H a xs) : xs.length ≤ sizeLine := by
  cases k with
  | l => obtain ⟨_, _, _, q⟩ := I.list h; exact q
  | t => obtain ⟨_, _, _, q⟩ := I.tuple h; exact q
/-- sorted, ints -/
def rSortK (K : PySem.W.Frag) : List V → Hp → VK → Prop := fun vs H Q => ∃ (k : Sk) (a : Addr) (ns : List Int), vs = [V.ref a] ∧ k.at_ K H a (ns.map V.int) ∧
  ∀ (ns' : List Int) (p : Addr), ns'.Perm ns → ns'.Pairwise (· ≤ ·) → H p = none → Q (.ref p) (upd H p (.lst (ns'.map V.int)))
theorem cr_sortK : CallR X (.builtin "sorted") (rSortK X.K) := by
  intro pins s σ H vs us Q I r h
  obtain ⟨k, a, ns, rfl, hs, q⟩ := h
  obtain ⟨its, rv, hl, _⟩ := Sk.of_inv I hs
  have hz := at_line I hs
  rw [Vals.ref1 r]
  have hi := rv.ints
  refine sorted_K (k := k) SrtO.swo_int hl (by rw [← rv.length]; exact hz) (fun h2 h₁ a' _ _ => SrtO.ints_sortable hi h2) fun h' l out h1 h2 hk hsz ⟨n, he⟩ => ?_
  obtain ⟨k1, k2, k3⟩ := SrtO.ints_out hi h1 h2
  have hlen : ((out.map SrtO.iv).map V.int).length ≤ sizeLine := by
    rw [List.length_map, k2.length_eq]
    rw [List.length_map] at hz
    exact hz
  exact ⟨.ref l, upd H l (.lst ((out.map SrtO.iv).map V.int)), I.laid (t' := s.toks) hk hsz ⟨hlen, out, n, vals_of_ints k1, he⟩, rfl, q _ _ k2 k3 (I.hok.fresh hsz)⟩
end
end Mi
-- Mir9
set_option Elab.async false
set_option linter.all false
set_option maxRecDepth 100000
set_option maxHeartbeats 2000000
namespace Mi
open PySem L2 PyProof.Rows PySem.Spec
section
variable {X : Cx} {W : WX} {K : PySem.W.Frag} {H H' H1 H2 : Hp} {φ φ' φ1 φ2 : Ph} {hp hp' hp1 hp2 : Hs} {v : V} {d : D} {vs : List V} {ds xs : List D} {p : Addr} {σ : L2.St} {env env' : Env} {Q : VK}
variable {a b c e e2 e3 tg : Expr} {es : List Expr} {ma mb mc : M D} {pos : Pos} {mas : M (List D)}
theorem reps1 {d : D} (r : Reps K H φ hp vs [d]) : ∃ v, vs = [v] ∧ Rep K H φ hp v d := by
  cases r with | cons r rs => cases rs; exact ⟨_, rfl, r⟩
theorem reps2 {d d2 : D} (r : Reps K H φ hp vs [d, d2]) : ∃ v v2, vs = [v, v2] ∧ Rep K H φ hp v d ∧ Rep K H φ hp v2 d2 := by
  cases r with | cons r rs => cases rs with | cons r2 rs => cases rs; exact ⟨_, _, rfl, r, r2⟩
theorem seq_here (s : SR K H φ hp) (r : Rep K H φ hp v d) (e : seqv hp d = some xs) : ∃ a vs, v = .ref a ∧ (kindOf hp d).at_ K H a vs ∧ Reps K H φ hp vs xs := by
  obtain ⟨a, rfl, q⟩ := seq_stay s r e
  obtain ⟨vs, h, r⟩ := q H φ hp Ext.refl.toSub s keep_self
  exact ⟨a, vs, rfl, h, r⟩
theorem at_or {k : Sk} {a : Addr} (h : k.at_ K H a vs) : SqL K H a vs ∨ SqT K H a vs := by
  cases k with
  | l => exact .inl h
  | t => exact .inr h
/-! ### builtins that give a value -/
def gLen (hp : Hs) (ds : List D) : Option D := match ds with
  | [d] => match look hp d with
    | .str z => if z.length ≤ sizeLine then some (.int z.length) else none
    | .dic ks xs => some (.int ks.length)
    | d' => match seqv hp d' with
      | some xs => some (.int xs.length)
      | none => none
  | _ => none
theorem seqv_look : seqv hp (look hp d) = seqv hp d := by
  cases d <;> try rfl
  rename_i n
  rcases look_loc_cases hp n with ⟨ys, h, h2⟩ | ⟨ks, ys, h, h2⟩ | ⟨ks, ys, h, h2⟩ | h2 <;> simp only [seqv, h2, look_lst, look_dic, look_dct]
def rLenA (K : PySem.W.Frag) : List V → Hp → VK → Prop := fun xs H Q => (∃ x n, xs = [x] ∧ LenV K x H n ∧ Q (.int n) H) ∨ ∃ a kvs, xs = [V.ref a] ∧ H a = some (.dK kvs) ∧ Q (.int kvs.length) H
theorem cr_len : CallR X (.builtin "len") (rLenA X.K) := call_len.or call_lenD
theorem cs_len : CallS X (rLenA X.K) gLen := fun H φ hp vs ds d s r h Q F => by
  unfold gLen at h
  split at h
  · rename_i d0
    have r1 := reps1 r; clear r; obtain ⟨v, rfl, r⟩ := r1
    split at h
    · rename_i z e
      split at h <;> cases h
      rename_i hz
      obtain rfl := rep_str s r e
      exact .inl ⟨_, z.length, rfl, ⟨hz, rfl⟩, F H Ext.refl s _ (.int _)⟩
    · rename_i ks xs e
      cases h
      obtain ⟨a, kvs, rfl, q, hk, rr⟩ := rep_dic s r e
      refine .inr ⟨a, kvs, rfl, q, F H Ext.refl s _ ?_⟩
      rw [← hk, List.length_map]
      exact .int _
    · split at h <;> cases h
      rename_i xs e
      rw [seqv_look] at e
      obtain ⟨a, us, rfl, q, rr⟩ := seq_here s r e
      rw [← rr.length] at F
      exact .inl ⟨_, us.length, rfl, (at_or q).imp (fun z => ⟨us, z, rfl⟩) fun z => ⟨us, z, rfl⟩, F H Ext.refl s _ (.int _)⟩
  · cases h
/-- f of one int -/
def gAbs (hp : Hs) (ds : List D) : Option D := match ds with
  | [d] => match look hp d with
    | .int i => some (.int (if i < 0 then -i else i))
    | _ => none
  | _ => none
theorem cs_abs : CallS X (fun xs H Q => ∃ i, xs = [.int i] ∧ Q (.int (if i < 0 then -i else i)) H) gAbs := fun H φ hp vs ds d s r h Q F => by
  unfold gAbs at h
  split at h
  · have r1 := reps1 r; clear r; obtain ⟨v, rfl, r⟩ := r1
    split at h <;> cases h
    rename_i i e
    obtain rfl := rep_int s r e
    exact ⟨i, rfl, F H Ext.refl s _ (.int _)⟩
  · cases h
def gInt (hp : Hs) (ds : List D) : Option D := match ds with
  | [d] => match look hp d with
    | .int i => some (.int i)
    | .bl k => some (.int (if k then 1 else 0))
    | _ => none
  | _ => none
theorem cs_int : CallS X (fun xs H Q => (∃ i, xs = [.int i] ∧ Q (.int i) H) ∨ ∃ k, xs = [.bl k] ∧ Q (.int (if k then 1 else 0)) H) gInt := fun H φ hp vs ds d s r h Q F => by
  unfold gInt at h
  split at h
  · have r1 := reps1 r; clear r; obtain ⟨v, rfl, r⟩ := r1
    split at h
    · rename_i i e
      cases h
      obtain rfl := rep_int s r e
      exact .inl ⟨i, rfl, F H Ext.refl s _ (.int _)⟩
    · rename_i i e
      cases h
      obtain rfl := rep_bl s r e
      exact .inr ⟨i, rfl, F H Ext.refl s _ (.int _)⟩
    · cases h
  · cases h
/-- the greatest, the least of some ints -/
def maxI : List Int → Int
  | [] => 0
  | n :: ns => ns.foldl max n
def minI : List Int → Int
  | [] => 0
  | n :: ns => ns.foldl min n
theorem foldl_max_ge : ∀ (ns : List Int) (n : Int), n ≤ ns.foldl max n ∧ ∀ y ∈ ns, y ≤ ns.foldl max n
  | [], n => ⟨Int.le_refl n, fun y h => by simp at h⟩
  | m :: ns, n => by
    obtain ⟨h1, h2⟩ := foldl_max_ge ns (max n m)
    refine ⟨by simp only [List.foldl_cons]; omega, fun y h => ?_⟩
    simp only [List.foldl_cons]
    rcases List.mem_cons.mp h with rfl | h
    · omega
    · exact h2 y h
theorem foldl_max_in : ∀ (ns : List Int) (n : Int), ns.foldl max n = n ∨ ns.foldl max n ∈ ns
  | [], n => .inl rfl
  | m :: ns, n => by
    simp only [List.foldl_cons, List.mem_cons]
    rcases foldl_max_in ns (max n m) with h | h
    · rw [h]
      by_cases e : n ≤ m
      · right; left; omega
      · left; omega
    · exact .inr (.inr h)
theorem foldl_min_le : ∀ (ns : List Int) (n : Int), ns.foldl min n ≤ n ∧ ∀ y ∈ ns, ns.foldl min n ≤ y
  | [], n => ⟨Int.le_refl n, fun y h => by simp at h⟩
  | m :: ns, n => by
    obtain ⟨h1, h2⟩ := foldl_min_le ns (min n m)
    refine ⟨by simp only [List.foldl_cons]; omega, fun y h => ?_⟩
    simp only [List.foldl_cons]
    rcases List.mem_cons.mp h with rfl | h
    · omega
    · exact h2 y h
theorem foldl_min_in : ∀ (ns : List Int) (n : Int), ns.foldl min n = n ∨ ns.foldl min n ∈ ns
  | [], n => .inl rfl
  | m :: ns, n => by
    simp only [List.foldl_cons, List.mem_cons]
    rcases foldl_min_in ns (min n m) with h | h
    · rw [h]
      by_cases e : m ≤ n
      · right; left; omega
      · left; omega
    · exact .inr (.inr h)
theorem maxI_is {ns : List Int} {m : Int} (h : m ∈ ns) (hm : ∀ y ∈ ns, y ≤ m) : m = maxI ns := by
  cases ns with
  | nil => simp at h
  | cons n ns =>
    obtain ⟨a, b⟩ := foldl_max_ge ns n
    have c := foldl_max_in ns n
    show m = ns.foldl max n
    have h1 : m ≤ ns.foldl max n := by
      rcases List.mem_cons.mp h with rfl | h
      · exact a
      · exact b m h
    have h2 : ns.foldl max n ≤ m := by
      rcases c with c | c
      · rw [c]; exact hm n (by simp)
      · exact hm _ (by simp [c])
    omega
theorem minI_is {ns : List Int} {m : Int} (h : m ∈ ns) (hm : ∀ y ∈ ns, m ≤ y) : m = minI ns := by
  cases ns with
  | nil => simp at h
  | cons n ns =>
    obtain ⟨a, b⟩ := foldl_min_le ns n
    have c := foldl_min_in ns n
    show m = ns.foldl min n
    have h1 : ns.foldl min n ≤ m := by
      rcases List.mem_cons.mp h with rfl | h
      · exact a
      · exact b m h
    have h2 : m ≤ ns.foldl min n := by
      rcases c with c | c
      · rw [c]; exact hm n (by simp)
      · exact hm _ (by simp [c])
    omega
def gMax (hp : Hs) (ds : List D) : Option D := match ds with
  | [d] => match seqv hp d with
    | some xs => match ints? xs with
      | some (n :: ns) => some (.int (maxI (n :: ns)))
      | _ => none
    | none => none
  | [d, d2] => match look hp d, look hp d2 with
    | .int i, .int j => some (.int (if j > i then j else i))
    | _, _ => none
  | _ => none
def gMin (hp : Hs) (ds : List D) : Option D := match ds with
  | [d] => match seqv hp d with
    | some xs => match ints? xs with
      | some (n :: ns) => some (.int (minI (n :: ns)))
      | _ => none
    | none => none
  | [d, d2] => match look hp d, look hp d2 with
    | .int i, .int j => some (.int (if j < i then j else i))
    | _, _ => none
  | _ => none
def rMaxA (K : PySem.W.Frag) : List V → Hp → VK → Prop := fun xs H Q => rMaxK K xs H Q ∨ ∃ i j, xs = [.int i, .int j] ∧ Q (.int (if j > i then j else i)) H
def rMinA (K : PySem.W.Frag) : List V → Hp → VK → Prop := fun xs H Q => rMinK K xs H Q ∨ ∃ i j, xs = [.int i, .int j] ∧ Q (.int (if j < i then j else i)) H
theorem cr_maxA (hc : X.calm = true) : CallR X (.builtin "max") (rMaxA X.K) := (cr_maxK hc).or (call_max2 hc)
theorem cr_minA (hc : X.calm = true) : CallR X (.builtin "min") (rMinA X.K) := (cr_minK hc).or (call_min2 hc)
theorem ints_here {ns : List Int} (s : SR K H φ hp) (r : Rep K H φ hp v d) (e : seqv hp d = some xs) (h : ints? xs = some ns) : ∃ a, v = .ref a ∧ (kindOf hp d).at_ K H a (ns.map V.int) := by
  obtain ⟨a, us, rfl, q, rr⟩ := seq_here s r e
  obtain rfl := ints_of h
  obtain rfl := rr.ints
  exact ⟨a, rfl, q⟩
theorem cs_max : CallS X (rMaxA X.K) gMax := fun H φ hp vs ds d s r h Q F => by
  unfold gMax at h
  split at h
  · have r1 := reps1 r; clear r; obtain ⟨v, rfl, r⟩ := r1
    split at h
    · rename_i xs e
      split at h <;> cases h
      rename_i n ns e2
      obtain ⟨a, rfl, q⟩ := ints_here s r e e2
      exact .inl ⟨_, a, n :: ns, rfl, q, by simp, fun m h1 h2 => by rw [maxI_is h1 h2]; exact F H Ext.refl s _ (.int _)⟩
    · cases h
  · have r1 := reps2 r; clear r; obtain ⟨v, v2, rfl, r, r2⟩ := r1
    split at h <;> cases h
    rename_i i j e1 e2
    obtain rfl := rep_int s r e1
    obtain rfl := rep_int s r2 e2
    exact .inr ⟨i, j, rfl, F H Ext.refl s _ (.int _)⟩
  · cases h
theorem cs_min : CallS X (rMinA X.K) gMin := fun H φ hp vs ds d s r h Q F => by
  unfold gMin at h
  split at h
  · have r1 := reps1 r; clear r; obtain ⟨v, rfl, r⟩ := r1
    split at h
    · rename_i xs e
      split at h <;> cases h
      rename_i n ns e2
      obtain ⟨a, rfl, q⟩ := ints_here s r e e2
      exact .inl ⟨_, a, n :: ns, rfl, q, by simp, fun m h1 h2 => by rw [minI_is h1 h2]; exact F H Ext.refl s _ (.int _)⟩
    · cases h
  · have r1 := reps2 r; clear r; obtain ⟨v, v2, rfl, r, r2⟩ := r1
    split at h <;> cases h
    rename_i i j e1 e2
    obtain rfl := rep_int s r e1
    obtain rfl := rep_int s r2 e2
    exact .inr ⟨i, j, rfl, F H Ext.refl s _ (.int _)⟩
  · cases h
def gSum (hp : Hs) (ds : List D) : Option D := match ds with
  | [d] => match seqv hp d with
    | some xs => match ints? xs with
      | some ns => some (.int ns.sum)
      | none => none
    | none => none
  | _ => none
/-- all, any of a list of truth values -/
def bls? : List D → Option (List Bool)
  | [] => some []
  | .bl i :: ds => match bls? ds with
    | some ns => some (i :: ns)
    | none => none
  | _ :: _ => none
@[simp] theorem bls_map (ns : List Bool) : bls? (ns.map D.bl) = some ns := by
  induction ns with
  | nil => rfl
  | cons n ns ih => simp [bls?, ih]
/-- tuple(x) of a list or a tuple -/
def gTup (hp : Hs) (ds : List D) : Option D := match ds with
  | [d] => match seqv hp d with
    | some xs => some (.tup xs)
    | none => none
  | _ => none
theorem cs_tup : CallS X (fun xs H Q => ∃ p ys, xs = [.ref p] ∧ ((SqL X.K H p ys ∧ NewT H ys Q) ∨ (SqT X.K H p ys ∧ Q (.ref p) H))) gTup := fun H φ hp vs ds d s r h Q F => by
  unfold gTup at h
  split at h
  · have r1 := reps1 r; clear r; obtain ⟨v, rfl, r⟩ := r1
    split at h <;> cases h
    rename_i xs e
    have e0 := e
    unfold seqv at e
    cases hl : look hp _ <;> rw [hl] at e <;> cases e
    · obtain ⟨a, us, rfl, q, rr⟩ := rep_tup s r hl
      exact ⟨a, us, rfl, .inr ⟨q.sq, F H Ext.refl s _ (.tup q rr)⟩⟩
    · obtain ⟨a, us, rfl, q, rr⟩ := rep_lst s r hl
      refine ⟨a, us, rfl, .inl ⟨SqL.of q, fun l ob hl hb => ?_⟩⟩
      obtain ⟨a1, a2, a3⟩ := new_tup s rr hl hb
      exact F _ a1 a2 _ a3
    · obtain ⟨a, us, rfl, q, rr⟩ := rep_frz s r hl
      refine ⟨a, us, rfl, .inl ⟨q, fun l ob hl hb => ?_⟩⟩
      obtain ⟨a1, a2, a3⟩ := new_tup s rr hl hb
      exact F _ a1 a2 _ a3
  · cases h
/-- list(x): new -/
def gList (hp : Hs) (ds : List D) : Option (List D) := match ds with
  | [d] => seqv hp d
  | _ => none
theorem cn_list : CallN X (fun xs H Q => ∃ p ys, xs = [.ref p] ∧ (SqL X.K H p ys ∨ SqT X.K H p ys) ∧ ∀ l, H l = none → Q (.ref l) (upd H l (.lst ys))) gList := fun H φ hp vs ds xs s r h Q F => by
  unfold gList at h
  split at h
  · have r1 := reps1 r; clear r; obtain ⟨v, rfl, r⟩ := r1
    obtain ⟨a, us, rfl, q, rr⟩ := seq_here s r h
    exact ⟨a, us, rfl, at_or q, fun l hl => F H Ext.refl s l us hl rr⟩
  · cases h
/-- sorted(x), ints: new -/
def sortI (ns : List Int) : List Int := ns.mergeSort fun a b => decide (a ≤ b)
theorem sortI_perm (ns : List Int) : (sortI ns).Perm ns := List.mergeSort_perm ns _
theorem sortI_pw (ns : List Int) : (sortI ns).Pairwise (· ≤ ·) := by
  have h := List.pairwise_mergeSort (le := fun a b : Int => decide (a ≤ b)) (fun a b c h1 h2 => by simp only [decide_eq_true_eq] at *; omega) (fun a b => by simp only [Bool.or_eq_true, decide_eq_true_eq]; omega) ns
  exact h.imp fun h => of_decide_eq_true h
theorem sortI_is {ns ms : List Int} (h : ms.Perm ns) (hp : ms.Pairwise (· ≤ ·)) : ms = sortI ns :=
  (h.trans (sortI_perm ns).symm).eq_of_pairwise (fun a b _ _ h1 h2 => Int.le_antisymm h1 h2) hp (sortI_pw ns)
def gSorted (hp : Hs) (ds : List D) : Option (List D) := match ds with
  | [d] => match seqv hp d with
    | some xs => match ints? xs with
      | some ns => some ((sortI ns).map .int)
      | none => none
    | none => none
  | _ => none
theorem cn_sorted : CallN X (rSortK X.K) gSorted := fun H φ hp vs ds xs s r h Q F => by
  unfold gSorted at h
  split at h
  · have r1 := reps1 r; clear r; obtain ⟨v, rfl, r⟩ := r1
    split at h
    · rename_i ys e
      split at h <;> cases h
      rename_i ns e2
      obtain ⟨a, rfl, q⟩ := ints_here s r e e2
      refine ⟨_, a, ns, rfl, q, fun ns' p h1 h2 hp => ?_⟩
      rw [sortI_is h1 h2]
      exact F H Ext.refl s p _ hp (Reps.ofInts _)
    · cases h
  · cases h
/-- repr -/
def reprOk (p : PyData) : Bool := p.showable && !p.hasDict && decide (p.depth ≤ 40) && decide (p.shown.length ≤ sizeLine)
/-- isinstance -/
def tyName : D → Option String
  | .non => some "NoneType"
  | .bl _ => some "bool"
  | .int _ => some "int"
  | .str _ => some "str"
  | .tup _ => some "tuple"
  | .lst _ => some "list"
  | .frz _ => some "list"
  | .dic _ _ => some "dict"
  | _ => none
def isDct (hp : Hs) : D → Bool
  | .dct _ _ => true
  | .loc n => match hp[n]? with
    | some (some (.dct _ _)) => true
    | _ => false
  | _ => false
def gIsi (hp : Hs) (ds : List D) : Option D := match ds with
  | [d, .ty n] => match tyName (look hp d) with
    | some m => match kitB m n with
      | some b => some (.bl b)
      | none => none
    | none => if isDct hp d = true then (kitB "dict" n).map .bl else none
  | _ => none
end
end Mi
-- Mir10
set_option Elab.async false
set_option linter.all false
set_option maxRecDepth 100000
set_option maxHeartbeats 2000000
namespace Mi
open PySem L2 PyProof.Rows PySem.Spec
section
variable {X : Cx} {W : WX} {K : PySem.W.Frag} {H H' H1 H2 : Hp} {φ φ' φ1 φ2 : Ph} {hp hp' hp1 hp2 : Hs} {v : V} {d : D} {vs : List V} {ds xs : List D} {p : Addr} {σ : L2.St} {env env' : Env} {Q : VK}
variable {a b c e e2 e3 tg : Expr} {es : List Expr} {ma mb mc : M D} {pos : Pos} {mas : M (List D)}
/-! ### methods that change a list of ours -/
def boxL (hp : Hs) (d : D) : Option (Nat × List D) := match d with
  | .loc n => match hp[n]? with
    | some (some (.lst xs)) => some (n, xs)
    | _ => none
  | _ => none
theorem boxL_ok {n : Nat} (h : boxL hp d = some (n, xs)) : d = .loc n ∧ hp[n]? = some (some (.lst xs)) := by
  unfold boxL at h
  split at h
  · split at h <;> cases h
    rename_i e
    exact ⟨rfl, e⟩
  · cases h
@[simp] theorem boxL_loc {n : Nat} (h : hp[n]? = some (some (.lst xs))) : boxL hp (.loc n) = some (n, xs) := by simp [boxL, h]
theorem SR.lstAt {n : Nat} (s : SR K H φ hp) (h : hp[n]? = some (some (.lst xs))) : ∃ vs, H (φ n) = some (.lst vs) ∧ Reps K H φ hp vs xs := by
  cases s.obs n _ h with
  | lst e r => exact ⟨_, e, r⟩
/-- contents, arguments: the value, the contents after -/
def MtS (X : Cx) (r : V → List V → Hp → VK → Prop) (g : Hs → List D → List D → Option (D × List D)) : Prop := ∀ H φ hp n xs vs ds d ys, SR X.K H φ hp → hp[n]? = some (some (.lst xs)) → Reps X.K H φ hp vs ds → g hp xs ds = some (d, ys) → ∀ Q : VK,
  (∀ H', Ext H φ hp H' φ (hp.set n (some (.lst ys))) → SR X.K H' φ (hp.set n (some (.lst ys))) → ∀ v, Rep X.K H' φ (hp.set n (some (.lst ys))) v d → Q v H') → r (.ref (φ n)) vs H Q
/-- how it goes: the list of values changes -/
theorem put_lst {n : Nat} {ys : List D} {us : List V} (s : SR K H φ hp) (h : hp[n]? = some (some (.lst xs))) (r : Reps K H φ hp us ys) :
    Ext H φ hp (upd H (φ n) (.lst us)) φ (hp.set n (some (.lst ys))) ∧ SR K (upd H (φ n) (.lst us)) φ (hp.set n (some (.lst ys))) := by
  have x : Ext H φ hp (upd H (φ n) (.lst us)) φ (hp.set n (some (.lst ys))) := Ext.put s h
  exact ⟨x, s.put h (.lst upd_same (r.mono s x))⟩
def gAppend (_ : Hs) (xs ds : List D) : Option (D × List D) := match ds with
  | [d] => if xs.length < sizeLine then some (.non, xs ++ [d]) else none
  | _ => none
theorem ms_append : MtS X rAppend gAppend := fun H φ hp n xs vs ds d ys s h r e Q F => by
  unfold gAppend at e
  split at e
  · split at e <;> cases e
    rename_i hz
    have r1 := reps1 r; clear r; obtain ⟨v, rfl, r⟩ := r1
    obtain ⟨us, q, ru⟩ := s.lstAt h
    obtain ⟨y, s1⟩ := put_lst s h (ru.append (.one r))
    exact ⟨_, us, v, rfl, rfl, q, by rw [ru.length]; exact hz, F _ y s1 _ .non⟩
  · cases e
def gPopAt (_ : Hs) (xs ds : List D) : Option (D × List D) := match ds with
  | [.int i] => if -(2 ^ 63) ≤ i ∧ i < 2 ^ 63 then match seqIndex? i xs.length with
      | some k => match xs[k]? with
        | some d => some (d, xs.eraseIdx k)
        | none => none
      | none => none
    else none
  | _ => none
theorem Reps.eraseIdx {k : Nat} (r : Reps K H φ hp vs ds) : Reps K H φ hp (vs.eraseIdx k) (ds.eraseIdx k) := by
  rw [List.eraseIdx_eq_take_drop_succ, List.eraseIdx_eq_take_drop_succ]
  exact (r.take _).append (r.drop _)
theorem ms_popAt : MtS X rPopAt gPopAt := fun H φ hp n xs vs ds d ys s h r e Q F => by
  unfold gPopAt at e
  split at e
  · rename_i i
    split at e
    · rename_i hi
      split at e
      · rename_i k hk
        split at e <;> cases e
        rename_i d0 e1
        have r1 := reps1 r; clear r; obtain ⟨v, rfl, r⟩ := r1
        cases r
        obtain ⟨us, q, ru⟩ := s.lstAt h
        obtain ⟨y, s1⟩ := put_lst s h ru.eraseIdx
        obtain ⟨v, hv, rv⟩ := ru.get e1
        exact ⟨_, us, i, k, v, rfl, rfl, q, hi.1, hi.2, by rw [ru.length]; exact hk, hv, F _ y s1 _ (rv.mono s y)⟩
      · cases e
    · cases e
  · cases e
def gExtend (hp : Hs) (xs ds : List D) : Option (D × List D) := match ds with
  | [d] => match look hp d with
    | .lst ys => if xs.length + ys.length ≤ sizeLine then some (.non, xs ++ ys) else none
    | _ => none
  | _ => none
/-- o.m(..) -/
def mMt (g : Hs → List D → List D → Option (D × List D)) (o : M D) (as : M (List D)) : M D := bnd o fun x => bnd (lft fun hp => boxL hp x) fun _ => bnd as fun ds => fun env hp => match boxL hp x with
  | some (n, xs) => match g hp xs ds with
    | some (d, ys) => some (.ok d, hp.set n (some (.lst ys)))
    | none => none
  | none => none
theorem te_mt {r : V → List V → Hp → VK → Prop} {g : Hs → List D → List D → Option (D × List D)} {to : TE} {t : TA} (hs : MtS X r g) (ho : TEok X W to ma) (k : TAok X W t mas) : TEok X W (tBM X.K "list" r to t) (mMt g ma mas) := fun σ H φ env hp o hp' s l h Q F => by
  refine te_stepG ho s l h F.exc fun x hp1 H1 φ1 v h1 s1 l1 r1 y1 => ?_
  rcases bnd_ok h1 with ⟨z, hp2, e1, e2⟩ | ⟨c, d, e1, rfl⟩
  · obtain ⟨⟨n, xs⟩, e, e3, rfl⟩ := lft_ok e1
    obtain ⟨rfl, hn⟩ := boxL_ok e
    have hv : v = .ref (φ1 n) := by cases r1; rfl
    subst hv
    obtain ⟨us, q, _⟩ := s1.lstAt hn
    refine ⟨.inl ⟨rfl, us, SqL.of q⟩, ?_⟩
    refine ta_stepG k s1 l1 e2 (F.on y1).exc fun ds hp2 H2 φ2 vs h2 s2 l2 r2 y2 => ?_
    split at h2
    · rename_i n' xs' e4
      obtain ⟨e5, hn2⟩ := boxL_ok e4
      cases e5
      split at h2 <;> cases h2
      rename_i d ys e6
      have hph : φ2 n = φ1 n := y2.ph n (List.getElem?_eq_some_iff.mp hn).1
      rw [← hph]
      exact hs H2 φ2 hp2 n xs' vs ds d ys s2 hn2 r2 e6 Q fun H' y3 s3 v r => F H' φ2 ((y1.trans y2).trans y3) s3 v r
    · cases h2
  · obtain ⟨_, _, e3, _⟩ := lft_ok e1
    cases e3
theorem de_mt {name : Str} {apos cpos : Pos} {id : String} {r : V → List V → Hp → VK → Prop} {g : Hs → List D → List D → Option (D × List D)} {o : Expr} (slot : Slot "list" name id) (hty : typeOf (.builtin id) = pure (.type "method_descriptor")) (hm : MtR X id r) (hs : MtS X r g) (ho : DE X W o ma) (ha : DA X W (e :: es) mas)
    (hbase : attributeBase o name X.env (eval o X.env) = eval o X.env := by rfl)
    (hfew : ((backTo cpos (starEach (e :: es) X.env)).all (fun x => !x.1) && (backToKw cpos (keywordEach [] X.env)).all (fun x => x.1.isSome)
      && decide ((e :: es).length + ([] : List Keyword).length + (if ([] : List Keyword).isEmpty then 0 else 1) < 30)) = true := by rfl)
    (hline : (apos.endLine == cpos.line) = true := by rfl) (h1 : starEach (e :: es) X.env = (false, eval e X.env) :: starEach es X.env := by rfl) (hplain : (backTo cpos (starEach es X.env)).any (·.1) = false := by rfl) :
    DE X W (.Call (.Attribute o name apos) (e :: es) [] cpos) (mMt g ma mas) := by
  obtain ⟨_, p, k⟩ := ho
  obtain ⟨_, q, j⟩ := ha
  exact ⟨_, pe_bm PySem.F.plainAttrs_list slot hty hm p q hbase hfew hline h1 hplain, te_mt hs k j⟩
/-! ### xs[i] = e -/
def gSt (o i : M D) : MG := fun d env hp => match o env hp with
  | some (.ok x, hp1) => match i env hp1 with
    | some (.ok (.int k), hp2) => match boxL hp2 x with
      | some (n, xs) => match ixN xs.length k with
        | some j => some (env, hp2.set n (some (.lst (xs.set j d))))
        | none => none
      | none => none
    | _ => none
  | _ => none
theorem dg_sub {o i : Expr} {fp : List Nat} (ho : DE X W o ma) (hi : DE X W i mb)
    (ha : ∀ v, assign (.Subscript o i pos) X.env v = (do
      let ov ← holding [v] (eval o X.env)
      let iv ← holding [v, ov] (eval i X.env)
      standAt pos
      holding [v, ov, iv] (setItem ov iv v)
      release [v, ov, iv] []) := by intro _; rfl) : DG X fp (.Subscript o i pos) (gSt ma mb) := by
  obtain ⟨_, p, k⟩ := ho
  obtain ⟨_, q, j⟩ := hi
  refine ⟨_, pg_sub p q set_list ha, fun v d σ H φ env hp env' hp' s l r h Q F => ?_⟩
  unfold gSt at h
  split at h
  · rename_i x hp1 e1
    refine k σ H φ env hp _ _ s l e1 _ fun H1 φ1 y1 s1 w r1 => ?_
    split at h
    · rename_i z hp2 e2
      refine j σ H1 φ1 env hp1 _ _ s1 (l.mono s y1) e2 _ fun H2 φ2 y2 s2 w2 r2 => ?_
      cases r2
      split at h
      · rename_i n xs e3
        obtain ⟨rfl, hn⟩ := boxL_ok e3
        split at h
        · rename_i m e4
          cases h
          have r3 := r1.mono s1 y2
          have hw : w = .ref (φ2 n) := by cases r3; rfl
          subst hw
          obtain ⟨us, q, ru⟩ := s2.lstAt hn
          obtain ⟨y3, s3⟩ := put_lst s2 hn (ru.set (i := m) (r.mono s (y1.trans y2)))
          refine ⟨_, us, z, m, rfl, rfl, q, by rw [ru.length]; exact e4, ?_⟩
          exact F σ _ φ2 ((y1.trans y2).trans y3) s3 (l.mono s ((y1.trans y2).trans y3)) (fun _ _ => rfl) rfl
        · cases h
      · cases h
    · cases h
  · cases h
/-! ### x op= e -/
def sAug (i : Nat) (f : Int → Int → Int) (m : M D) : MS := fun env hp => match env[i]? with
  | some (some (.int a)) => sE m (fun d env hp => match d with
    | .int b => some (.nx, env.set i (some (.int (f a b))), hp)
    | _ => none) env hp
  | _ => none
theorem ds_aug {i : Nat} {x : Str} {op : Operator} {f : Int → Int → Int} {pos' : Pos} (hN : X.N.Nodup) (hi : X.N[i]? = some x) (hx : Loc X.env.scope x) (he : DE X W e ma) (ho : PIp X op (ipI f)) (hf : X.fn x = true ∨ X.env.scope.names.lookup x = some .local := by first | exact .inl rfl | exact .inr rfl | assumption) :
    DS X W (.AugAssign (.Name x pos') op e pos) (sAug i f ma) := by
  obtain ⟨_, p, k⟩ := he
  refine ⟨_, ps_aug hN hi hx p ho hf, fun σ H φ env hp fl env' hp' s l h D F => ?_⟩
  unfold sAug at h
  split at h
  · rename_i a0 e0
    obtain ⟨v, hv, rv⟩ := l.2 i _ e0
    cases rv
    refine ⟨_, hv, ?_⟩
    refine ts_stepE k s l h F fun x hp1 H1 φ1 v h1 s1 l1 r1 y1 F1 => ?_
    split at h1
    · cases h1
      cases r1
      exact ⟨_, _, rfl, rfl, F1 _ H1 φ1 Ext.refl s1 (l1.set (.int _) i)⟩
    · cases h1
  · cases h
end
end Mi
-- Mir11
set_option Elab.async false
set_option linter.all false
set_option maxRecDepth 100000
set_option maxHeartbeats 2000000
namespace Mi
open PySem L2 PyProof.Rows PySem.Spec
section
variable {K : PySem.W.Frag} {H H' H1 H2 : Hp} {φ φ' φ1 φ2 : Ph} {hp hp' hp1 hp2 : Hs} {v : V} {d d' : D} {vs : List V} {ds xs : List D} {n : Nat} {bn : Option Nat}
/-! ### boxes below n -/
mutual
def low (n : Nat) : D → Bool
  | .loc m => decide (m < n)
  | .tup xs => lowL n xs
  | .itm xs => lowL n xs
  | .lst xs => lowL n xs
  | .frz xs => lowL n xs
  | .dic _ xs => lowL n xs
  | .dct _ xs => lowL n xs
  | .exc _ xs => lowL n xs
  | .adr _ xs => lowL n xs
  | _ => true
def lowL (n : Nat) : List D → Bool
  | [] => true
  | x :: xs => low n x && lowL n xs
end
@[simp] theorem lowL_nil : lowL n [] = true := rfl
@[simp] theorem lowL_cons {x : D} : lowL n (x :: xs) = (low n x && lowL n xs) := by rw [lowL]
@[simp] theorem low_int {i : Int} : low n (.int i) = true := rfl
@[simp] theorem low_bl {i} : low n (.bl i) = true := rfl
@[simp] theorem low_str {i} : low n (.str i) = true := rfl
@[simp] theorem low_non : low n .non = true := rfl
@[simp] theorem low_loc {m : Nat} : low n (.loc m) = decide (m < n) := rfl
@[simp] theorem low_tup : low n (.tup xs) = lowL n xs := by rw [low]
@[simp] theorem low_lst : low n (.lst xs) = lowL n xs := by rw [low]
@[simp] theorem low_frz : low n (.frz xs) = lowL n xs := by rw [low]
@[simp] theorem lowL_append {ys : List D} : lowL n (xs ++ ys) = (lowL n xs && lowL n ys) := by
  induction xs with
  | nil => simp
  | cons x xs ih => simp [ih, Bool.and_assoc]
@[simp] theorem lowL_ints (ns : List Int) : lowL n (ns.map .int) = true := by
  induction ns with
  | nil => rfl
  | cons a ns ih => simp [ih]
def lowO (n : Nat) : Ob → Bool
  | .lst xs => lowL n xs
  | .dic _ xs => lowL n xs
  | .dct _ xs => lowL n xs
  | .ins _ _ xs => lowL n xs
  | .lkd _ xs => lowL n xs
mutual
theorem Rep.low : ∀ {v : V} {d : D}, Rep K H φ hp v d → low hp.length d = true
  | _, _, .non => rfl
  | _, _, .bl _ => rfl
  | _, _, .int _ => rfl
  | _, _, .str _ => rfl
  | _, _, .tup _ r => by rw [Mi.low]; exact Reps.low r
  | _, _, .itm _ r => by rw [Mi.low]; exact Reps.low r
  | _, _, .lst _ _ r => by rw [Mi.low]; exact Reps.low r
  | _, _, .frz _ r => by rw [Mi.low]; exact Reps.low r
  | _, _, .dic _ _ r => by rw [Mi.low]; exact Reps.low r
  | _, _, .dct _ _ r => by rw [Mi.low]; exact Reps.low r
  | _, _, .adr _ _ r => by rw [Mi.low]; exact Reps.low r
  | _, _, .exc _ _ _ _ r => by rw [Mi.low]; exact Reps.low r
  | _, _, .ty _ => rfl
  | _, _, .loc h => by rw [Mi.low]; exact decide_eq_true h
theorem Reps.low : ∀ {vs : List V} {ds : List D}, Reps K H φ hp vs ds → lowL hp.length ds = true
  | _, _, .nil => rfl
  | _, _, .cons r rs => by rw [Mi.lowL, Rep.low r, Reps.low rs]; rfl
end
/-- fewer boxes -/
structure Shr (n : Nat) (φ1 : Ph) (hp1 : Hs) (φ2 : Ph) (hp2 : Hs) : Prop where
  len : n ≤ hp2.length
  ph : ∀ i, i < n → φ2 i = φ1 i
  ow : ∀ a, own φ2 hp2 a → own φ1 hp1 a
mutual
theorem Rep.shr (z : Shr n φ1 hp1 φ2 hp2) : ∀ {v : V} {d : D}, Rep K H φ1 hp1 v d → Mi.low n d = true → Rep K H φ2 hp2 v d
  | _, _, .non, _ => .non
  | _, _, .bl b, _ => .bl b
  | _, _, .int b, _ => .int b
  | _, _, .str b, _ => .str b
  | _, _, .tup h r, l => .tup h (Reps.shr z r (by rw [Mi.low] at l; exact l))
  | _, _, .itm h r, l => .itm h (Reps.shr z r (by rw [Mi.low] at l; exact l))
  | _, _, .lst h no r, l => .lst h (fun o => no (z.ow _ o)) (Reps.shr z r (by rw [Mi.low] at l; exact l))
  | _, _, .frz h r, l => .frz h (Reps.shr z r (by rw [Mi.low] at l; exact l))
  | _, _, .dic h no r, l => .dic h (fun o => no (z.ow _ o)) (Reps.shr z r (by rw [Mi.low] at l; exact l))
  | _, _, .dct h no r, l => .dct h (fun o => no (z.ow _ o)) (Reps.shr z r (by rw [Mi.low] at l; exact l))
  | _, _, .adr h no r, l => .adr h (fun o => no (z.ow _ o)) (Reps.shr z r (by rw [Mi.low] at l; exact l))
  | _, _, .exc h no c q r, l => .exc h (fun o => no (z.ow _ o)) c q (Reps.shr z r (by rw [Mi.low] at l; exact l))
  | _, _, .ty a, _ => .ty a
  | _, _, .loc (n := m) h, l => by
      rw [Mi.low] at l
      have hm := of_decide_eq_true l
      rw [← z.ph m hm]
      exact .loc (Nat.lt_of_lt_of_le hm z.len)
theorem Reps.shr (z : Shr n φ1 hp1 φ2 hp2) : ∀ {vs : List V} {ds : List D}, Reps K H φ1 hp1 vs ds → Mi.lowL n ds = true → Reps K H φ2 hp2 vs ds
  | _, _, .nil, _ => .nil
  | _, _, .cons r rs, l => by
      rw [Mi.lowL, Bool.and_eq_true] at l
      exact .cons (Rep.shr z r l.1) (Reps.shr z rs l.2)
end
/-! ### boxes from n on, as data (they are not changed any more) -/
def allD (f : D → Option D) : List D → Option (List D)
  | [] => some []
  | x :: xs => match f x, allD f xs with
    | some y, some ys => some (y :: ys)
    | _, _ => none
def ice (n : Nat) (bn : Option Nat) (hp : Hs) : Nat → D → Option D
  | 0, _ => none
  | k + 1, d => match d with
    | .loc m => if m < n then some (.loc m) else if bn = some m then none else match hp[m]? with
      | some (some (.lst xs)) => (allD (ice n bn hp k) xs).map .lst
      | some (some (.dic ks xs)) => (allD (ice n bn hp k) xs).map (.dic ks)
      | some (some (.dct ks xs)) => (allD (ice n bn hp k) xs).map (.dct ks)
      | _ => none
    | .tup xs => (allD (ice n bn hp k) xs).map .tup
    | .itm xs => (allD (ice n bn hp k) xs).map .itm
    | .lst xs => (allD (ice n bn hp k) xs).map .lst
    | .frz xs => (allD (ice n bn hp k) xs).map .frz
    | .dic ks xs => (allD (ice n bn hp k) xs).map (.dic ks)
    | .dct ks xs => (allD (ice n bn hp k) xs).map (.dct ks)
    | .exc c xs => (allD (ice n bn hp k) xs).map (.exc c)
    | .adr a xs => (allD (ice n bn hp k) xs).map (.adr a)
    | d => some d
theorem allD_reps {f : D → Option D} (hf : ∀ v d d', Rep K H φ1 hp1 v d → f d = some d' → Rep K H φ2 hp2 v d') : ∀ {xs ys : List D} {vs : List V}, Reps K H φ1 hp1 vs xs → allD f xs = some ys → Reps K H φ2 hp2 vs ys := by
  intro xs
  induction xs with
  | nil => intro ys vs r h; cases r; cases h; exact .nil
  | cons x xs ih =>
    intro ys vs r h
    cases r with
    | cons r rs =>
      unfold allD at h
      split at h <;> cases h
      rename_i y zs e1 e2
      exact .cons (hf _ _ _ r e1) (ih rs e2)
theorem ice_ok (z : Shr n φ1 hp1 φ2 hp2) (s : SR K H φ1 hp1) (hz : ∀ m o, n ≤ m → bn ≠ some m → hp1[m]? = some (some o) → isLk o = false → ¬ own φ2 hp2 (φ1 m)) :
    ∀ (k : Nat) (v : V) (d d' : D), Rep K H φ1 hp1 v d → ice n bn hp1 k d = some d' → Rep K H φ2 hp2 v d' := by
  intro k
  induction k with
  | zero => intro v d d' r h; cases h
  | succ k ih =>
    intro v d d' r h
    have go : ∀ {xs ys : List D} {vs : List V}, Reps K H φ1 hp1 vs xs → allD (ice n bn hp1 k) xs = some ys → Reps K H φ2 hp2 vs ys := fun r h => allD_reps ih r h
    unfold ice at h
    split at h
    · rename_i m
      split at h
      · rename_i hm
        cases h
        cases r
        rw [← z.ph m hm]
        exact .loc (Nat.lt_of_lt_of_le hm z.len)
      · rename_i hm
        split at h
        · cases h
        · rename_i hb
          cases r
          split at h
          · rename_i xs e
            obtain ⟨ys, e2, rfl⟩ := Option.map_eq_some_iff.mp h
            cases s.obs m _ e with
            | lst q r => exact .lst q (hz m _ (Nat.le_of_not_lt hm) hb e rfl) (go r e2)
          · rename_i xs e
            obtain ⟨ys, e2, rfl⟩ := Option.map_eq_some_iff.mp h
            cases s.obs m _ e with
            | dic q r => exact .dic q (hz m _ (Nat.le_of_not_lt hm) hb e rfl) (go r e2)
          · rename_i ks xs e
            obtain ⟨ys, e2, rfl⟩ := Option.map_eq_some_iff.mp h
            cases s.obs m _ e with
            | dct q r => exact .dct q (hz m _ (Nat.le_of_not_lt hm) hb e rfl) (go r e2)
          · cases h
    · obtain ⟨ys, e2, rfl⟩ := Option.map_eq_some_iff.mp h
      cases r with | tup q r => exact .tup q (go r e2)
    · obtain ⟨ys, e2, rfl⟩ := Option.map_eq_some_iff.mp h
      cases r with | itm q r => exact .itm q (go r e2)
    · obtain ⟨ys, e2, rfl⟩ := Option.map_eq_some_iff.mp h
      cases r with | lst q no r => exact .lst q (fun o => no (z.ow _ o)) (go r e2)
    · obtain ⟨ys, e2, rfl⟩ := Option.map_eq_some_iff.mp h
      cases r with | frz q r => exact .frz q (go r e2)
    · obtain ⟨ys, e2, rfl⟩ := Option.map_eq_some_iff.mp h
      cases r with | dic q no r => exact .dic q (fun o => no (z.ow _ o)) (go r e2)
    · obtain ⟨ys, e2, rfl⟩ := Option.map_eq_some_iff.mp h
      cases r with | dct q no r => exact .dct q (fun o => no (z.ow _ o)) (go r e2)
    · obtain ⟨ys, e2, rfl⟩ := Option.map_eq_some_iff.mp h
      cases r with | exc q no c xd r => exact .exc q (fun o => no (z.ow _ o)) c xd (go r e2)
    · obtain ⟨ys, e2, rfl⟩ := Option.map_eq_some_iff.mp h
      cases r with | adr q no r => exact .adr q (fun o => no (z.ow _ o)) (go r e2)
    · rename_i n1 n2 n7 n3 n4 n5 n6 n8 n9
      cases h
      cases r with
      | non => exact .non
      | bl => exact .bl _
      | int => exact .int _
      | str => exact .str _
      | adr => exact absurd rfl (n9 _ _)
      | ty => exact .ty _
      | tup => exact absurd rfl (n2 _)
      | itm => exact absurd rfl (n7 _)
      | lst => exact absurd rfl (n3 _)
      | frz => exact absurd rfl (n4 _)
      | dic => exact absurd rfl (n5 _ _)
      | dct => exact absurd rfl (n6 _ _)
      | exc => exact absurd rfl (n8 _ _)
      | loc => exact absurd rfl (n1 _)
/-! ### back in the caller -/
def keepsB (n : Nat) (hp hp1 : Hs) : Prop := ∀ i o, i < n → hp1[i]? = some (some o) → hp[i]? = some (some o) ∨ lowO n o = true
theorem take_get {i : Nat} {o : Ob} (h : (hp1.take n)[i]? = some (some o)) : i < n ∧ hp1[i]? = some (some o) := by
  rw [List.getElem?_take] at h
  split at h
  · rename_i hi; exact ⟨hi, h⟩
  · cases h
theorem cut_shr (hl : n ≤ hp1.length) : Shr n φ1 hp1 φ1 (hp1.take n) where
  len := by rw [List.length_take]; omega
  ph := fun _ _ => rfl
  ow := fun a o => by
    rcases o with ⟨i, o, h1, h2⟩ | o
    · exact .inl ⟨i, o, (take_get h1).2, h2⟩
    · exact .inr o
theorem cut_obs (s : SR K H φ hp) (x : Ext H φ hp H1 φ1 hp1) (s1 : SR K H1 φ1 hp1) (kb : keepsB hp.length hp hp1) (z : Shr hp.length φ1 hp1 φ2 hp2) {i : Nat} {o : Ob} (hi : i < hp.length) (h : hp1[i]? = some (some o)) : ObRep K H1 φ2 hp2 (φ1 i) o := by
  have lo : lowO hp.length o = true := by
    rcases kb i o hi h with q | q
    · cases s.obs i o q with
      | lst _ r => exact r.low
      | dic _ r => exact r.low
      | dct _ r => exact r.low
      | lkd _ r => exact r.low
      | ins _ r => exact r.low
    · exact q
  cases s1.obs i o h with
  | lst q r => exact .lst q (r.shr z lo)
  | dic q r => exact .dic q (r.shr z lo)
  | dct q r => exact .dct q (r.shr z lo)
  | lkd q r => exact .lkd q (r.shr z lo)
  | ins q r => exact .ins q (r.shr z lo)
theorem TabO.shr {P : Addr} {q : Str} (z : Shr n φ1 hp1 φ2 hp2) (t : TabO H1 φ1 hp1 P q) : TabO H1 φ2 hp2 P q := by
  obtain ⟨ps, h1, h2, h3⟩ := t
  refine ⟨ps, h1, h2, fun pos cv hc => ?_⟩
  obtain ⟨c, e, h, no⟩ := h3 pos cv hc
  exact ⟨c, e, h, fun o => no (z.ow _ o)⟩
theorem cut_ok (s : SR K H φ hp) (x : Ext H φ hp H1 φ1 hp1) (s1 : SR K H1 φ1 hp1) (kb : keepsB hp.length hp hp1) : Ext H φ hp H1 φ1 (hp1.take hp.length) ∧ SR K H1 φ1 (hp1.take hp.length) := by
  have z : Shr hp.length φ1 hp1 φ1 (hp1.take hp.length) := cut_shr x.len
  refine ⟨⟨⟨z.len, x.ph, x.kp, fun a o => x.fr a (z.ow a o), x.zk, fun i ks xs h => x.nl i ks xs (take_get h).2⟩, x.th, x.zz⟩, ⟨fun i j o o' h1 h2 e => ?_, fun i o h => ?_, fun i o h hk => ?_, s1.zs, fun t ht => ⟨(s1.tb t ht).1, (s1.tb t ht).2.shr z⟩⟩⟩
  · exact s1.inj i j o o' (take_get h1).2 (take_get h2).2 e
  · exact cut_obs s x s1 kb z (take_get h).1 (take_get h).2
  · exact s1.zn i o (take_get h).2 hk
/-- .. with one more box -/
theorem box_get {i : Nat} {o ob : Ob} (hl : n ≤ hp1.length) (h : (hp1.take n ++ [some ob])[i]? = some (some o)) : (i < n ∧ hp1[i]? = some (some o)) ∨ (i = n ∧ o = ob) := by
  have hl2 : (hp1.take n).length = n := by rw [List.length_take]; omega
  by_cases hi : i < n
  · rw [List.getElem?_append_left (by omega)] at h
    exact .inl ⟨hi, (take_get h).2⟩
  · rw [List.getElem?_append_right (by omega), hl2] at h
    have := (List.getElem?_eq_some_iff.mp h).1
    simp at this
    have e : i = n := by omega
    subst e
    simp at h
    exact .inr ⟨rfl, h.symm⟩
theorem box_shr {m : Nat} {o ob : Ob} (hl : n ≤ hp1.length) (hm : hp1[m]? = some (some o)) : Shr n φ1 hp1 (bx φ1 n (φ1 m)) (hp1.take n ++ [some ob]) where
  len := by rw [List.length_append, List.length_take]; omega
  ph := fun i hi => bx_ne (Nat.ne_of_lt hi)
  ow := fun a w => by
    rcases w with ⟨i, o2, h1, h2⟩ | w
    · rcases box_get hl h1 with ⟨hi, h⟩ | ⟨rfl, rfl⟩
      · rw [bx_ne (Nat.ne_of_lt hi)] at h2
        exact .inl ⟨i, _, h, h2⟩
      · rw [bx_same] at h2
        exact .inl ⟨m, _, hm, h2⟩
    · exact .inr w
theorem box_ok {m : Nat} {o ob : Ob} (s : SR K H φ hp) (x : Ext H φ hp H1 φ1 hp1) (s1 : SR K H1 φ1 hp1) (kb : keepsB hp.length hp hp1) (hm : hp1[m]? = some (some o)) (hn : hp.length ≤ m)
    (r : ObRep K H1 (bx φ1 hp.length (φ1 m)) (hp1.take hp.length ++ [some ob]) (φ1 m) ob) (hok : isLk o = false := by rfl) (hob : isLk ob = false := by rfl) :
    Ext H φ hp H1 (bx φ1 hp.length (φ1 m)) (hp1.take hp.length ++ [some ob]) ∧ SR K H1 (bx φ1 hp.length (φ1 m)) (hp1.take hp.length ++ [some ob]) := by
  have z : Shr hp.length φ1 hp1 (bx φ1 hp.length (φ1 m)) (hp1.take hp.length ++ [some ob]) := box_shr x.len hm
  refine ⟨⟨⟨z.len, fun i hi => (z.ph i hi).trans (x.ph i hi), x.kp, fun a o => x.fr a (z.ow a o), x.zk, fun i ks xs h => ?_⟩, x.th, x.zz⟩, ⟨fun i j o1 o2 h1 h2 e => ?_, fun i o1 h => ?_, fun i o1 h hk => ?_, s1.zs, fun t ht => ⟨(s1.tb t ht).1, (s1.tb t ht).2.shr z⟩⟩⟩
  · obtain ⟨ks2, xs2, h2⟩ := nl_app hob i ks xs h
    exact x.nl i _ _ (take_get h2).2
  · rcases box_get x.len h1 with ⟨hi, q1⟩ | ⟨rfl, rfl⟩ <;> rcases box_get x.len h2 with ⟨hj, q2⟩ | ⟨rfl, rfl⟩
    · rw [bx_ne (Nat.ne_of_lt hi), bx_ne (Nat.ne_of_lt hj)] at e
      exact s1.inj i j _ _ q1 q2 e
    · rw [bx_ne (Nat.ne_of_lt hi), bx_same] at e
      have := s1.inj i m _ _ q1 hm e
      omega
    · rw [bx_ne (Nat.ne_of_lt hj), bx_same] at e
      have := s1.inj j m _ _ q2 hm e.symm
      omega
    · rfl
  · rcases box_get x.len h with ⟨hi, q1⟩ | ⟨rfl, rfl⟩
    · rw [bx_ne (Nat.ne_of_lt hi)]
      exact cut_obs s x s1 kb z hi q1
    · rw [bx_same]; exact r
  · rcases box_get x.len h with ⟨hi, q1⟩ | ⟨rfl, rfl⟩
    · rw [bx_ne (Nat.ne_of_lt hi)]
      exact s1.zn i _ q1 hk
    · rw [bx_same]; exact s1.zn m o hm hok
open Classical in
/-- a def whose result is data -/
noncomputable def cutF (g : Fn) : Fn := fun args hp => match g args hp with
  | some (.ok d, hp1) => if keepsB hp.length hp hp1 then match ice hp.length none hp1 8 d with
      | some d' => some (.ok d', hp1.take hp.length)
      | none => none
    else none
  | some (.ex c none, hp1) => if keepsB hp.length hp hp1 then some (.ex c none, hp1.take hp.length) else none
  | some (.ex c (some d), hp1) => if keepsB hp.length hp hp1 then match ice hp.length none hp1 8 d with
      | some d' => some (.ex c (some d'), hp1.take hp.length)
      | none => none
    else none
  | none => none
open Classical in
/-- .. is a list in a new box -/
noncomputable def boxF (g : Fn) : Fn := fun args hp => match g args hp with
  | some (.ok (.loc m), hp1) => if keepsB hp.length hp hp1 ∧ hp.length ≤ m then match hp1[m]? with
      | some (some (.lst xs)) => match allD (ice hp.length (some m) hp1 8) xs with
        | some ys => some (.ok (.loc hp.length), hp1.take hp.length ++ [some (.lst ys)])
        | none => none
      | _ => none
    else none
  | some (.ex c none, hp1) => if keepsB hp.length hp hp1 then some (.ex c none, hp1.take hp.length) else none
  | _ => none
theorem cut_not_own (x : Ext H φ hp H1 φ1 hp1) (s1 : SR K H1 φ1 hp1) : ∀ m o, hp.length ≤ m → none ≠ some m → hp1[m]? = some (some o) → isLk o = false → ¬ own φ1 (hp1.take hp.length) (φ1 m) := fun m o hm _ h hk w => by
  rcases w with ⟨i, o2, h1, h2⟩ | w
  · have := s1.inj i m _ _ (take_get h1).2 h h2
    have := (take_get h1).1
    omega
  · exact s1.zn m o h hk w
theorem sp_cut {mg : Str → Option Value} {g : Fn} {n : Nat} {Q : VK} {E : XK} (h : spOf K mg n (cutF g) vs H Q E) : spOf K mg n g vs H Q E := by
  obtain ⟨φ, hp, ds, o, hp', hl, s, r, hg, F⟩ := h
  unfold cutF at hg
  split at hg
  · rename_i d hp1 e
    split at hg
    · rename_i kb
      split at hg <;> cases hg
      rename_i d' e2
      refine ⟨φ, hp, ds, _, hp1, hl, s, r, e, fun H1 φ1 x s1 v rv => ?_⟩
      obtain ⟨x2, s2⟩ := cut_ok s x s1 kb
      exact F H1 φ1 x2 s2 v (ice_ok (cut_shr x.len) s1 (cut_not_own x s1) 8 v d d' rv e2)
    · cases hg
  · rename_i c hp1 e
    split at hg <;> cases hg
    rename_i kb
    refine ⟨φ, hp, ds, _, hp1, hl, s, r, e, fun H1 φ1 x s1 cls da xr => ?_⟩
    obtain ⟨x2, s2⟩ := cut_ok s x s1 kb
    refine F H1 φ1 x2 s2 cls da ?_
    obtain ⟨C, h1, h2, h3⟩ := xr
    exact ⟨C, h1, h2, h3⟩
  · rename_i c d hp1 e
    split at hg
    · rename_i kb
      split at hg <;> cases hg
      rename_i d' e2
      refine ⟨φ, hp, ds, _, hp1, hl, s, r, e, fun H1 φ1 x s1 cls da xr => ?_⟩
      obtain ⟨x2, s2⟩ := cut_ok s x s1 kb
      refine F H1 φ1 x2 s2 cls da ?_
      obtain ⟨C, h1, h2, a, v, h3, h4, h5⟩ := xr
      exact ⟨C, h1, h2, a, v, h3, h4, ice_ok (cut_shr x.len) s1 (cut_not_own x s1) 8 v d d' h5 e2⟩
    · cases hg
  · cases hg
theorem sp_box {mg : Str → Option Value} {g : Fn} {n : Nat} {Q : VK} {E : XK} (h : spOf K mg n (boxF g) vs H Q E) : spOf K mg n g vs H Q E := by
  obtain ⟨φ, hp, ds, o, hp', hl, s, r, hg, F⟩ := h
  unfold boxF at hg
  split at hg
  · rename_i m hp1 e
    split at hg
    · rename_i kb
      split at hg
      · rename_i xs hm
        split at hg <;> cases hg
        rename_i ys e2
        refine ⟨φ, hp, ds, _, hp1, hl, s, r, e, fun H1 φ1 x s1 v rv => ?_⟩
        have z : Shr hp.length φ1 hp1 (bx φ1 hp.length (φ1 m)) (hp1.take hp.length ++ [some (.lst ys)]) := box_shr x.len hm
        have no : ∀ j o, hp.length ≤ j → some m ≠ some j → hp1[j]? = some (some o) → isLk o = false → ¬ own (bx φ1 hp.length (φ1 m)) (hp1.take hp.length ++ [some (.lst ys)]) (φ1 j) := fun j o hj hb h hk w => by
          rcases w with ⟨i, o2, h1, h2⟩ | w
          · rcases box_get x.len h1 with ⟨hi, q1⟩ | ⟨rfl, rfl⟩
            · rw [bx_ne (Nat.ne_of_lt hi)] at h2
              have := s1.inj i j _ _ q1 h h2
              omega
            · rw [bx_same] at h2
              exact hb (by rw [s1.inj m j _ _ hm h h2])
          · exact s1.zn j o h hk w
        have ro : ObRep K H1 (bx φ1 hp.length (φ1 m)) (hp1.take hp.length ++ [some (.lst ys)]) (φ1 m) (.lst ys) := by
          cases s1.obs m _ hm with
          | lst q r => exact .lst q (allD_reps (fun v d d' => ice_ok z s1 no 8 v d d') r e2)
        obtain ⟨x2, s2⟩ := box_ok s x s1 kb.1 hm kb.2 ro
        refine F H1 _ x2 s2 v ?_
        cases rv
        have e5 : V.ref (φ1 m) = V.ref (bx φ1 hp.length (φ1 m) hp.length) := by rw [bx_same]
        rw [e5]
        refine .loc ?_
        have := x.len
        rw [List.length_append, List.length_take]
        simp; omega
      · cases hg
    · cases hg
  · rename_i c hp1 e
    split at hg <;> cases hg
    rename_i kb
    refine ⟨φ, hp, ds, _, hp1, hl, s, r, e, fun H1 φ1 x s1 cls da xr => ?_⟩
    obtain ⟨x2, s2⟩ := cut_ok s x s1 kb
    refine F H1 φ1 x2 s2 cls da ?_
    obtain ⟨C, h1, h2, h3⟩ := xr
    exact ⟨C, h1, h2, h3⟩
  · cases hg
section
variable {P : Program} {w : World} {mg : Str → Option Value} {base : Heap}
theorem FnG.imp {CX : CXT} {k : Nat} {f : Addr} {fd : FuncData} {ps : List Str} {sp sp' : Sp} (F : FnG P w K mg base CX k f fd ps sp) (h : ∀ vs H Q E, sp' vs H Q E → sp vs H Q E) : FnG P w K mg base CX k f fd ps sp' :=
  ⟨fun vs H Q E q => F.len vs H Q E (h _ _ _ _ q), fun A outer s H args us vs Q E hr hg e0 hb r q => F.run A outer s H args us vs Q E hr hg e0 hb r (h _ _ _ _ q)⟩
theorem FnG.cut {CX : CXT} {k : Nat} {f : Addr} {fd : FuncData} {ps : List Str} {n : Nat} {g : Fn} (F : FnG P w K mg base CX k f fd ps (spOf K mg n g)) : FnG P w K mg base CX k f fd ps (spOf K mg n (cutF g)) := F.imp fun _ _ _ _ => sp_cut
theorem FnG.box {CX : CXT} {k : Nat} {f : Addr} {fd : FuncData} {ps : List Str} {n : Nat} {g : Fn} (F : FnG P w K mg base CX k f fd ps (spOf K mg n g)) : FnG P w K mg base CX k f fd ps (spOf K mg n (boxF g)) := F.imp fun _ _ _ _ => sp_box
end
end
end Mi
-- Mir12
set_option Elab.async false
set_option linter.all false
set_option maxRecDepth 100000
set_option maxHeartbeats 2000000
namespace Mi
open PySem L2 PyProof.Rows PySem.Spec
end Mi
-- MirZ3
set_option Elab.async false
set_option linter.all false
set_option maxRecDepth 100000
set_option maxHeartbeats 2000000
namespace Mi
open PySem L2 PyProof.Rows PySem.Spec
section
variable {X : Cx} {W : WX} {K : PySem.W.Frag} {H H' H1 H2 : Hp} {φ φ' φ1 φ2 : Ph} {hp hp' hp1 hp2 : Hs} {v : V} {d : D} {vs : List V} {ds xs : List D} {p : Addr} {σ : L2.St} {env env' : Env} {Q : VK}
variable {a b c e e2 e3 tg : Expr} {es : List Expr} {ma mb mc : M D} {pos : Pos} {mas : M (List D)}
theorem BodyX.hu65 {k : Nat} (b : BodyX X W k) : X.A.units + 65 < cLine := by have := b.room.un; omega
/-! ### enumerate(zip(x, y)) -/
def mEnumZ (as : M (List D)) : M Src := bnd as fun ds => fun _ hp => match ds with
  | [d, d2] => match seqv hp d, seqv hp d2 with
    | some xs, some ys => some (.ok ⟨enumD 0 (zipD xs ys), fun h => keepOf hp d h ∧ keepOf hp d2 h⟩, hp)
    | _, _ => none
  | _ => none
theorem it_enumZ {a b : Addr} {k k2 : Sk} {ys : List D} {d2 : D} {k0 : Int} (hk : ∀ H' φ' hp', Sub H φ hp H' φ' hp' → SR K H' φ' hp' → keepOf hp d hp' → ∃ vs, k.at_ K H' a vs ∧ Reps K H' φ' hp' vs xs)
    (hk2 : ∀ H' φ' hp', Sub H φ hp H' φ' hp' → SR K H' φ' hp' → keepOf hp d2 hp' → ∃ vs, k2.at_ K H' b vs ∧ Reps K H' φ' hp' vs ys) : ItOk K H φ hp (fun h => keepOf hp d h ∧ keepOf hp d2 h) (Itnz k k2 K a b k0) (enumD k0 (zipD xs ys)) := fun i H' φ' hp' x s' kp => by
  obtain ⟨vs, hq, r⟩ := hk H' φ' hp' x s' kp.1
  obtain ⟨us, hq2, r2⟩ := hk2 H' φ' hp' x s' kp.2
  refine ⟨fun d e => ?_, fun e => ⟨vs, us, hq, hq2, by rw [e, r.length, r2.length]; simp [enumD, zipD]⟩⟩
  unfold enumD zipD at e
  rw [List.getElem?_mapIdx, List.getElem?_zipWith] at e
  cases ex : xs[i]? with
  | none => rw [ex] at e; cases e
  | some z =>
    cases ey : ys[i]? with
    | none => rw [ex, ey] at e; cases e
    | some z2 =>
      rw [ex, ey] at e; cases e
      obtain ⟨v, ev, rv⟩ := r.get ex
      obtain ⟨v2, ev2, rv2⟩ := r2.get ey
      refine ⟨⟨vs, us, v, v2, hq, hq2, ev, ev2⟩, fun y H2 hy => ?_⟩
      obtain ⟨T1, T2, w, w2, rfl, hT1, hne, hT2, rfl, hw, hw2⟩ := hy
      have h1 := hw vs hq
      have h2 := hw2 us hq2
      rw [ev] at h1
      rw [ev2] at h2
      cases h1
      cases h2
      obtain ⟨y1, s1, q1⟩ := new_itm s' (.cons rv (.cons rv2 .nil)) hT1
      obtain ⟨y2, s2, q2⟩ := new_itm (p := T2) s1 (.cons (.int (k0 + (i : Int))) (.cons q1 .nil)) (by rw [upd_ne (Ne.symm hne)]; exact hT2)
      exact ⟨y1.trans y2, s2, q2⟩
theorem di_enumZ {elts : List Expr} {kk : Nat} {tpos q q2 pos2 : Pos} (hg : Gl X "enumerate") (hm : X.mg "enumerate" = none) (hg2 : Gl X "zip") (hm2 : X.mg "zip" = none) (ha : DA X W [e, e2] mas)
    (hs0 : starEach [Expr.Call (.Name "zip" q2) [e, e2] [] pos2] X.env = [(false, eval (.Call (.Name "zip" q2) [e, e2] [] pos2) X.env)] := by rfl)
    (hs : starEach [e, e2] X.env = (false, eval e X.env) :: starEach [e2] X.env := by rfl) (hpl : (backTo pos2 (starEach [e2] X.env)).any (·.1) = false := by rfl) :
    DI X W (.Tuple elts kk tpos) (.Call (.Name "enumerate" q) [.Call (.Name "zip" q2) [e, e2] [] pos2] [] pos) (mEnumZ mas) := by
  obtain ⟨t, pt, k⟩ := ha
  refine ⟨_, pi_enumZ hg hm hg2 hm2 pt hs0 hs hpl, fun σ H φ env hp o hp' s l h R F => ?_⟩
  refine ta_stepI (RI := R) k s l h F fun ds hp1 H1 φ1 vs h1 s1 r1 y1 => ?_
  split at h1
  · split at h1
    · rename_i xs ys hs hs2
      cases h1
      cases r1 with
      | cons r rs =>
        cases rs with
        | cons r2 rs =>
          cases rs
          obtain ⟨a, rfl, q⟩ := seq_stay s1 r hs
          obtain ⟨b, rfl, q2⟩ := seq_stay s1 r2 hs2
          obtain ⟨vs, hv, _⟩ := q H1 φ1 _ Ext.refl.toSub s1 keep_self
          obtain ⟨us, hu, _⟩ := q2 H1 φ1 _ Ext.refl.toSub s1 keep_self
          exact ⟨_, _, a, b, vs, us, rfl, hv, hu, F H1 φ1 y1 s1 _ (it_enumZ q q2)⟩
    · cases h1
  · cases h1
/-! ### x in xs: scalars in a list or a tuple; data of any depth in a list; a text in a text -/
def flatD : D → Bool
  | .non => true
  | .bl _ => true
  | .int _ => true
  | .str _ => true
  | _ => false
def sameD : D → D → Bool
  | .non, .non => true
  | .bl i, .bl j => i == j
  | .bl i, .int j => (if i then 1 else 0) == j
  | .int i, .bl j => i == (if j then 1 else 0)
  | .int i, .int j => i == j
  | .str i, .str j => i == j
  | _, _ => false
def toV : D → V
  | .non => .non
  | .bl b => .bl b
  | .int i => .int i
  | .str x => .str x
  | _ => .non
theorem flat_rep {d : D} (r : Rep K H φ hp v d) (h : flatD d = true) : v = toV d := by
  cases r <;> first | rfl | (cases h; done)
theorem flat_toV {d : D} (h : flatD d = true) : flatV (toV d) = true := by cases d <;> first | rfl | (cases h; done)
theorem eq_toV {d d2 : D} (h : flatD d = true) (h2 : flatD d2 = true) : eqV (toV d) (toV d2) = sameD d d2 := by
  cases d <;> first | (cases h; done) | (cases d2 <;> first | (cases h2; done) | rfl)
theorem flats_rep : ∀ {ds : List D} {vs : List V}, Reps K H φ hp vs ds → ds.all flatD = true → vs = ds.map toV
  | [], _, .nil, _ => rfl
  | d :: ds, _, .cons r rs, h => by
    rw [List.all_cons, Bool.and_eq_true] at h
    rw [List.map_cons, ← flats_rep rs h.2, ← flat_rep r h.1]
theorem flats_toV {ds : List D} (h : ds.all flatD = true) : (ds.map toV).all flatV = true := by
  rw [List.all_map, List.all_eq_true]
  intro d hd
  exact flat_toV (List.all_eq_true.mp h d hd)
theorem in_toV {ds : List D} {d : D} (h : ds.all flatD = true) (h2 : flatD d = true) : inV (toV d) (ds.map toV) = ds.any fun y => sameD y d := by
  unfold inV
  rw [List.any_map]
  induction ds with
  | nil => rfl
  | cons y ds ih =>
    rw [List.all_cons, Bool.and_eq_true] at h
    rw [List.any_cons, List.any_cons, ih h.2]
    show (eqV (toV y) (toV d) || _) = _
    rw [eq_toV h.1 h2]
theorem look_flat {d : D} (r : Rep K H φ hp v d) (h : flatD (look hp d) = true) : look hp d = d := by
  cases d <;> try rfl
  rename_i n
  rcases look_loc_cases hp n with ⟨ys, _, h2⟩ | ⟨ks, ys, _, h2⟩ | ⟨ks, ys, _, h2⟩ | h2 <;> rw [h2] at h <;> first | (cases h; done) | exact h2
def inD (hp : Hs) (x y : D) : Option Bool := match look hp x, look hp y with
  | .str i, .str j => some (!(Builtin.Str.occurrences j i 0 j.length 1).isEmpty)
  | x', y' => match seqv hp y' with
    | some ys => if flatD x' = true ∧ ys.all flatD = true then some (ys.any fun z => sameD z x') else match y', x'.py, D.pyAll ys with
        | .lst _, some p, some ps => if SeqAt.shaped p = true ∧ SeqAt.shaped (.list ps) = true then some (ps.any fun z => PyData.eqv z p) else none
        | _, _, _ => none
    | none => none
def gIn (hp : Hs) (x y : D) : Option D := match inD hp x y with
  | some b => some (.bl b)
  | none => none
def gNotIn (hp : Hs) (x y : D) : Option D := match inD hp x y with
  | some b => some (.bl (!b))
  | none => none
def rNotInS : R2 := fun x y H Q => ∃ i j, x = .str i ∧ y = .str j ∧ Q (.bl (!(!(Builtin.Str.occurrences j i 0 j.length 1).isEmpty))) H
def rNotInA (K : PySem.W.Frag) : R2 := fun x y H Q => rIn K true x y H Q ∨ rNotInS x y H Q ∨ rNotInD K x y H Q
theorem op_notInA (hu : X.A.units + 65 < cLine) : OpR X (compareOp .NotIn) (rNotInA X.K) := op_notIn_seq.or ((show OpR X (compareOp .NotIn) rNotInS from op_notIn_str).or (op_notInD hu))
theorem inD_ok {x y : V} {d1 d2 : D} {b : Bool} (s : SR K H φ hp) (r1 : Rep K H φ hp x d1) (r2 : Rep K H φ hp y d2) (h : inD hp d1 d2 = some b) :
    (∃ p xs, y = .ref p ∧ (SqL K H p xs ∨ SqT K H p xs) ∧ flatV x = true ∧ xs.all flatV = true ∧ inV x xs = b) ∨ (∃ i j, x = .str i ∧ y = .str j ∧ (!(Builtin.Str.occurrences j i 0 j.length 1).isEmpty) = b) ∨
    ∃ d ds, Dp K H x d ∧ Dp K H y (.list ds) ∧ SeqAt.shaped d = true ∧ SeqAt.shaped (.list ds) = true ∧ (ds.any fun z => PyData.eqv z d) = b := by
  unfold inD at h
  split at h
  · rename_i i j e1 e2
    cases h
    exact .inr (.inl ⟨i, j, rep_str s r1 e1, rep_str s r2 e2, rfl⟩)
  · split at h
    · rename_i ys e
      rw [seqv_look] at e
      split at h
      · rename_i hc
        cases h
        have l1 := look_flat r1 hc.1
        rw [l1] at hc
        obtain ⟨p, us, rfl, q, rr⟩ := seq_here s r2 e
        refine .inl ⟨p, us, rfl, at_or q, ?_, ?_, ?_⟩
        · rw [flat_rep r1 hc.1]; exact flat_toV hc.1
        · rw [flats_rep rr hc.2]; exact flats_toV hc.2
        · rw [flats_rep rr hc.2, flat_rep r1 hc.1, in_toV hc.2 hc.1, l1]
      · split at h
        · rename_i zs p ps e1 e2 e3
          split at h <;> cases h
          rename_i hs
          refine .inr (.inr ⟨p, ps, look_dp s r1 e2, look_dp s r2 ?_, hs.1, hs.2, rfl⟩)
          have e4 : ys = zs := by
            have := e
            rw [← seqv_look, e1] at this
            cases this; rfl
          rw [e1, D.py, ← e4, e3]
        · cases h
    · cases h
theorem os_notIn : OpS X (rNotInA X.K) gNotIn := fun H φ hp x y d1 d2 d s r1 r2 h Q F => by
  unfold gNotIn at h
  split at h <;> cases h
  rename_i b e
  rcases inD_ok s r1 r2 e with ⟨p, xs, a1, a2, a3, a4, a5⟩ | ⟨i, j, a1, a2, a3⟩ | ⟨d, ds, a1, a2, a3, a4, a5⟩
  · exact .inl ⟨p, xs, a1, a2, a3, a4, by rw [a5]; exact F H Ext.refl s _ (.bl _)⟩
  · exact .inr (.inl ⟨i, j, a1, a2, by rw [a3]; exact F H Ext.refl s _ (.bl _)⟩)
  · exact .inr (.inr ⟨d, ds, a1, a2, a3, a4, by rw [a5]; exact F H Ext.refl s _ (.bl _)⟩)
end
end Mi
-- MirL
set_option Elab.async false
set_option linter.all false
set_option maxRecDepth 100000
set_option maxHeartbeats 2000000
namespace Mi
open PySem L2 PyProof.Rows PySem.Spec
section
variable {X : Cx} {W : WX} {K : PySem.W.Frag} {H H' H1 H2 : Hp} {φ φ' φ1 φ2 : Ph} {hp hp' hp1 hp2 : Hs} {v : V} {d : D} {vs : List V} {ds xs : List D} {p : Addr} {σ : L2.St} {env env' : Env} {Q : VK}
variable {a b c e e2 e3 tg : Expr} {es : List Expr} {ma mb mc : M D} {pos : Pos} {mas : M (List D)}
theorem te_box {t : TE} (k : TNok X W t mas) : TEok X W t (mBox mas) := fun σ H φ env hp o hp' s l h Q F => by
  unfold mBox at h
  split at h
  · rename_i xs hp1 e1
    cases h
    refine k σ H φ env hp _ _ s l e1 Q fun H1 φ1 y1 s1 p vs hp r => ?_
    have y2 : Ext H1 φ1 hp1 (upd H1 p (.lst vs)) (bx φ1 hp1.length p) (hp1 ++ [some (.lst xs)]) := Ext.box s1 hp
    have s2 : SR X.K (upd H1 p (.lst vs)) (bx φ1 hp1.length p) (hp1 ++ [some (.lst xs)]) := s1.box hp (.lst upd_same (r.mono s1 y2))
    refine F _ _ (y1.trans y2) s2 _ ?_
    have e : V.ref p = V.ref (bx φ1 hp1.length p hp1.length) := by rw [bx_same]
    rw [e]
    exact .loc (by simp)
  · rename_i c d hp1 e1
    cases h
    exact k σ H φ env hp _ _ s l e1 Q fun H1 φ1 y1 s1 => F H1 φ1 y1 s1
  · cases h
theorem ts_set {t : TE} {i : Nat} (k : TEok X W t ma) : TSok X W (tAsg t (gName i)) (sSet i ma) := fun σ H φ env hp fl env' hp' s l h D F => by
  refine ts_stepE k s l h F fun x hp1 H1 φ1 v h1 s1 l1 r1 y1 F1 => ?_
  cases h1
  exact F1 _ H1 φ1 Ext.refl s1 (l1.set r1 i)
section
variable {elt iter : Expr} {ifs : List Expr} {scope : Scope} {own : List (Str × Nat)} {fp : List Nat} {spos py : Pos} {w : M Src} {g : MG} {mt : M Bool} {m : M D} {i : Nat} {y : Str}
theorem ds_setLcB (hc : X.calm = true) (hN : X.N.Nodup) (hy : X.N[i]? = some y) (hyl : X.env.scope.names.lookup y = some .local) (hi : DI X W tg iter w) (ok : BlkOk X.N X.env.scope scope own)
    (hfp : ∀ j ∈ fp, j ∈ own.map (·.2))
    (hg : ∀ (s : Shared) (H : Hp) (C : Addr) (cl : List (Str × Addr)) (ad : List Addr), DG (X.blk s H scope (compEnvC scope cl C X.env) ad) fp tg g)
    (ht : DTs (fun s H C cl ad => X.blk s H scope (compEnvC scope cl C X.env) ad) ifs mt)
    (he : ∀ (s : Shared) (H : Hp) (C : Addr) (cl : List (Str × Addr)) (ad : List Addr), DE (X.blk s H scope (compEnvC scope cl C X.env) ad) W0 elt m) (hk : X.env.scope.kind = .function := by rfl) (hl : (py.line == pos.line) = true := by rfl)
    (ha : (scope.names.any fun (n, k) => n == y && (k == .local || k == .cell)) = false := by rfl) (hs : ∀ x, foldedSetIterable iter X.env x = pure x := by intro _; rfl) :
    DS X W (.Assign [.Name y py] (.ListComp elt [⟨tg, iter, ifs, 0⟩] scope pos) spos) (sSet i (mBox (mComp w g mt m (own.map (·.2))))) := by
  obtain ⟨wi, gg, tt, te, p1, p2, p3, p4, k⟩ := comp_parts (pos := pos) hc hN hi ok hfp hg ht he
  exact ⟨_, ps_setLc hc hN hy hyl (sw_true hk hyl hl ha) p1 ok p2 p3 p4 hs, ts_set (te_box k)⟩
end
end
end Mi
-- MirX
set_option Elab.async false
set_option linter.all false
set_option maxRecDepth 100000
set_option maxHeartbeats 2000000
namespace Mi
open PySem L2 PyProof.Rows PySem.Spec
section
variable {X : Cx} {W : WX} {K : PySem.W.Frag} {H H' H1 H2 : Hp} {φ φ' φ1 φ2 : Ph} {hp hp' hp1 hp2 : Hs} {v : V} {d : D} {vs : List V} {ds xs : List D} {p : Addr} {σ : L2.St} {env env' : Env} {Q : VK}
variable {a b c e e2 e3 tg : Expr} {es : List Expr} {ma mb mc : M D} {pos : Pos} {mas : M (List D)}
theorem pe_or {t1 t2 : TE} (h1 : PE X e t1) (h2 : PE X e t2) : PE X e (fun σ H Q => t1 σ H Q ∨ t2 σ H Q) :=
  ⟨fun pins s σ H Q I h => h.elim (h1.run pins s σ H Q I) (h2.run pins s σ H Q I)⟩
/-! ### x.index(y): the first place of an equal one; there must be one -/
def gIdx (hp : Hs) (x : D) (ds : List D) : Option D := match ds with
  | [d] => match look hp x with
    | .tup xs => match ints? xs, look hp d with
      | some ns, .int z => match ns.findIdx? (fun y => decide (y = z)) with
        | some j => some (.int (j : Nat))
        | none => none
      | _, _ => none
    | _ => match (look hp x).py, (look hp d).py with
      | some (.list ps), some q => if SeqAt.shaped (.list ps) = true ∧ SeqAt.shaped q = true then match ps.findIdx? (fun y => PyData.eqv y q) with
          | some j => some (.int (j : Nat))
          | none => none
        else none
      | _, _ => none
  | _ => none
def mIdx (o : M D) (as : M (List D)) : M D := bnd o fun x => bnd (lft fun hp => seqv hp x) fun _ => bnd as fun ds => lft fun hp => gIdx hp x ds
theorem te_idx {to : TE} {t : TA} (ho : TEok X W to ma) (k : TAok X W t mas) : TEok X W (fun σ H Q => tBM X.K "list" (rIndexD X.K) to t σ H Q ∨ tBMD X.K (rTIx X.K) to t σ H Q) (mIdx ma mas) := fun σ H φ env hp o hp' s l h Q F => by
  unfold mIdx at h
  rcases bnd_ok h with ⟨x, hp1, e1, e2⟩ | ⟨c, d, e1, rfl⟩
  · rcases bnd_ok e2 with ⟨xs, hp2, e3, e4⟩ | ⟨c, d, e3, rfl⟩
    · obtain ⟨xs', e5, e6, rfl⟩ := lft_ok e3
      cases e6
      by_cases hx : ∃ ys, x = .tup ys
      · obtain ⟨ys, rfl⟩ := hx
        refine .inr (ho σ H φ env hp _ _ s l e1 _ fun H1 φ1 y1 s1 v r1 => ?_)
        obtain ⟨a, us, rfl, q, ru⟩ := rep_tup s1 r1 (by rfl)
        refine ⟨⟨a, us, rfl, q⟩, ?_⟩
        refine ta_stepG k s1 (l.mono s y1) e4 (F.on y1).exc fun ds hp3 H2 φ2 vs h2 s2 l2 r2 y2 => ?_
        obtain ⟨d, e7, rfl, rfl⟩ := lft_ok h2
        have r3 := r1.mono s1 y2
        unfold gIdx at e7
        split at e7
        · have r4 := reps1 r2; clear r2; obtain ⟨w, rfl, r2⟩ := r4
          rw [look_tup] at e7
          dsimp only at e7
          split at e7
          · rename_i ns z g1 g2
            split at e7 <;> cases e7
            rename_i j g3
            obtain rfl := ints_of g1
            obtain rfl := rep_int s2 r2 g2
            obtain ⟨a', us', ea, q3, ru3⟩ := rep_tup s2 r3 (by rfl)
            cases ea
            obtain rfl := ru3.ints
            rw [List.findIdx?_eq_some_iff_getElem] at g3
            obtain ⟨g4, g5, g6⟩ := g3
            simp only [decide_eq_true_eq] at g5
            refine ⟨a, ns, z, j, rfl, rfl, q3.sq, by rw [List.getElem?_eq_getElem g4, g5], fun m hm => ?_, F H2 φ2 (y1.trans y2) s2 _ (.int _)⟩
            have g7 := g6 m hm
            rw [List.getElem?_eq_getElem (by omega)]
            intro g8
            injection g8 with g8
            rw [g8] at g7
            simp at g7
          · cases e7
        · cases e7
      · refine .inl (ho σ H φ env hp _ _ s l e1 _ fun H1 φ1 y1 s1 v r1 => ?_)
        have hL : ∃ a us, v = .ref a ∧ SqL X.K H1 a us := by
          unfold seqv at e5
          cases hl : look _ x <;> rw [hl] at e5 <;> cases e5
          · exact absurd ⟨_, by
              cases x <;> simp only [look] at hl <;> try (cases hl; done)
              · exact hl
              · split at hl <;> cases hl⟩ hx
          · obtain ⟨a, us, rfl, q, _⟩ := rep_lst s1 r1 hl; exact ⟨a, us, rfl, SqL.of q⟩
          · obtain ⟨a, us, rfl, q, _⟩ := rep_frz s1 r1 hl; exact ⟨a, us, rfl, q⟩
        obtain ⟨a, us, rfl, q⟩ := hL
        refine ⟨.inl ⟨rfl, us, q⟩, ?_⟩
        refine ta_stepG k s1 (l.mono s y1) e4 (F.on y1).exc fun ds hp3 H2 φ2 vs h2 s2 l2 r2 y2 => ?_
        obtain ⟨d, e7, rfl, rfl⟩ := lft_ok h2
        have r3 := r1.mono s1 y2
        unfold gIdx at e7
        split at e7
        · have r4 := reps1 r2; clear r2; obtain ⟨w, rfl, r2⟩ := r4
          split at e7
          · rename_i zs hz
            exact absurd ⟨_, by
              cases x <;> simp only [look] at hz <;> try (cases hz; done)
              · exact hz
              · split at hz <;> cases hz⟩ hx
          · split at e7
            · rename_i ps q g1 g2
              split at e7
              · rename_i hs
                split at e7 <;> cases e7
                rename_i j g3
                rw [List.findIdx?_eq_some_iff_getElem] at g3
                obtain ⟨g4, g5, g6⟩ := g3
                refine ⟨a, w, q, ps, j, ps[j], rfl, rfl, look_dp s2 r3 g1, look_dp s2 r2 g2, hs.1, hs.2, List.getElem?_eq_getElem g4, g5, fun m z hm hz => ?_, F H2 φ2 (y1.trans y2) s2 _ (.int _)⟩
                have g7 := g6 m hm
                obtain ⟨g8, g9⟩ := List.getElem?_eq_some_iff.mp hz
                rw [← g9]
                simpa using g7
              · cases e7
            · cases e7
        · cases e7
    · obtain ⟨_, _, e5, _⟩ := lft_ok e3
      cases e5
  · exact .inl (ho σ H φ env hp _ _ s l e1 _ fun H1 φ1 y s1 => F.exc c d rfl H1 φ1 y s1)
theorem de_index {name : Str} {apos cpos : Pos} {o : Expr} (hu : X.A.units + 65 < cLine) (hn : name = "index") (ho : DE X W o ma) (ha : DA X W (e :: es) mas)
    (hbase : attributeBase o name X.env (eval o X.env) = eval o X.env := by rfl)
    (hfew : ((backTo cpos (starEach (e :: es) X.env)).all (fun x => !x.1) && (backToKw cpos (keywordEach [] X.env)).all (fun x => x.1.isSome)
      && decide ((e :: es).length + ([] : List Keyword).length + (if ([] : List Keyword).isEmpty then 0 else 1) < 30)) = true := by rfl)
    (hline : (apos.endLine == cpos.line) = true := by rfl) (h1 : starEach (e :: es) X.env = (false, eval e X.env) :: starEach es X.env := by rfl) (hplain : (backTo cpos (starEach es X.env)).any (·.1) = false := by rfl) :
    DE X W (.Call (.Attribute o name apos) (e :: es) [] cpos) (mIdx ma mas) := by
  subst hn
  obtain ⟨_, p, k⟩ := ho
  obtain ⟨_, q, j⟩ := ha
  exact ⟨_, pe_or (pe_bm PySem.F.plainAttrs_list PySem.F.slot_list_index PySem.F.type_list_index (mt_indexD hu) p q hbase hfew hline h1 hplain) (pe_bmD PySem.F.slot_tuple_index PySem.F.type_tuple_index mt_tupIx p q hbase hfew hline h1 hplain), te_idx k j⟩
end
end Mi
-- MirN
set_option Elab.async false
set_option linter.all false
set_option maxRecDepth 100000
set_option maxHeartbeats 2000000
namespace Mi
open PySem L2 PyProof.Rows PySem.Spec
section
variable {X : Cx} {W : WX} {K : PySem.W.Frag} {H H' H1 H2 : Hp} {φ φ' φ1 φ2 : Ph} {hp hp' hp1 hp2 : Hs} {v : V} {d : D} {vs : List V} {ds xs : List D} {p : Addr} {σ : L2.St} {env env' : Env} {Q : VK}
variable {a b c e e2 e3 tg : Expr} {es : List Expr} {ma mb mc : M D} {pos : Pos} {mas : M (List D)}
/-! ### new lists by operators -/
def OpN (X : Cx) (r : R2) (g : Hs → D → D → Option (List D)) : Prop := ∀ H φ hp x y d1 d2 ds, SR X.K H φ hp → Rep X.K H φ hp x d1 → Rep X.K H φ hp y d2 → g hp d1 d2 = some ds → ∀ Q : VK,
  (∀ H', Ext H φ hp H' φ hp → SR X.K H' φ hp → ∀ p us, H' p = none → Reps X.K H' φ hp us ds → Q (.ref p) (upd H' p (.lst us))) → r x y H Q
def mOpN (g : Hs → D → D → Option (List D)) (a b : M D) : M (List D) := bnd a fun x => bnd b fun y => lft fun hp => g hp x y
theorem tn_op {r : R2} {g : Hs → D → D → Option (List D)} {ta tb : TE} (hs : OpN X r g) (ha : TEok X W ta ma) (hb : TEok X W tb mb) : TNok X W (tOp r ta tb) (mOpN g ma mb) := fun σ H φ env hp o hp' s l h Q F => by
  refine te_stepG ha s l h F.exc fun x hp1 H1 φ1 v1 h1 s1 l1 r1 y1 => ?_
  refine te_stepG hb s1 l1 h1 (F.on y1).exc fun y hp2 H2 φ2 v2 h2 s2 l2 r2 y2 => ?_
  obtain ⟨d, e, rfl, rfl⟩ := lft_ok h2
  exact hs H2 φ2 hp' v1 v2 x y d s2 (r1.mono s1 y2) r2 e Q fun H' y3 s3 p us hn r => F H' φ2 ((y1.trans y2).trans y3) s3 p us hn r
theorem dn_op {op : Operator} {r : R2} {g : Hs → D → D → Option (List D)} (ho : OpR X (binaryOp op) r) (hs : OpN X r g) (ha : DE X W a ma) (hb : DE X W b mb) : DN X W (.BinOp a op b pos) (mOpN g ma mb) := by
  obtain ⟨ta, pa, ka⟩ := ha
  obtain ⟨tb, pb, kb⟩ := hb
  exact ⟨_, pe_op ho pa pb, tn_op hs ka kb⟩
def gMulN (hp : Hs) (x y : D) : Option (List D) := match look hp x, look hp y with
  | .lst a, .int j => if -(2 ^ 63) ≤ j ∧ j < 2 ^ 63 ∧ a.length * j.toNat ≤ sizeLine then some (List.replicate j.toNat a).flatten else none
  | _, _ => none
theorem on_mul : OpN X rRep gMulN := fun H φ hp x y d1 d2 d s r1 r2 h Q F => by
  unfold gMulN at h
  split at h
  · rename_i a j e1 e2
    split at h <;> cases h
    rename_i hc
    obtain ⟨p, us, rfl, h1, q1⟩ := rep_lst s r1 e1
    obtain rfl := rep_int s r2 e2
    exact ⟨p, j, us, rfl, rfl, h1, hc.1, hc.2.1, by rw [q1.length]; exact hc.2.2, fun t ht => F H Ext.refl s t _ ht (reps_replicate (n := j.toNat) q1)⟩
  · cases h
end
end Mi
-- MirP
set_option Elab.async false
set_option linter.all false
set_option maxRecDepth 100000
set_option maxHeartbeats 2000000
namespace Mi
open PySem L2 PyProof.Rows PySem.Spec
/-! ### sorted pairs of ints -/
def leP (p q : Int × Int) : Bool := decide (p.1 < q.1 ∨ (p.1 = q.1 ∧ p.2 ≤ q.2))
def sortP (ps : List (Int × Int)) : List (Int × Int) := ps.mergeSort leP
theorem sortP_perm (ps : List (Int × Int)) : (sortP ps).Perm ps := List.mergeSort_perm ps _
theorem sortP_pw (ps : List (Int × Int)) : (sortP ps).Pairwise fun p q => p.1 < q.1 ∨ (p.1 = q.1 ∧ p.2 ≤ q.2) := by
  have h := List.pairwise_mergeSort (le := leP) (fun a b c h1 h2 => by unfold leP at *; simp only [decide_eq_true_eq] at *; omega) (fun a b => by unfold leP; simp only [Bool.or_eq_true, decide_eq_true_eq]; omega) ps
  exact h.imp fun h => of_decide_eq_true h
theorem sortP_is {ns ms : List (Int × Int)} (h : ms.Perm ns) (hp : ms.Pairwise fun p q => p.1 < q.1 ∨ (p.1 = q.1 ∧ p.2 ≤ q.2)) : ms = sortP ns :=
  (h.trans (sortP_perm ns).symm).eq_of_pairwise (fun a b _ _ h1 h2 => Prod.ext (by omega) (by omega)) hp (sortP_pw ns)
theorem sortP_len (ps : List (Int × Int)) : (sortP ps).length = ps.length := (sortP_perm ps).length_eq
/-- sorted(xs), xs a list of pairs of ints, the pairs tuples of any kind -/
def rSortD (K : PySem.W.Frag) : List V → Hp → VK → Prop := fun vs H Q => ∃ (a : Addr) (xs : List V) (ps : List (Int × Int)), vs = [V.ref a] ∧ SqL K H a xs ∧ xs.length = ps.length ∧
  (∀ (i : Nat) (x : V) (q : Int × Int), xs[i]? = some x → ps[i]? = some q → ∃ t, x = V.ref t ∧ SqT K H t [.int q.1, .int q.2]) ∧
  ∀ (ys : List V) (p : Addr), ys.length = ps.length → (∀ (i : Nat) (y : V) (q : Int × Int), ys[i]? = some y → (sortP ps)[i]? = some q → ∃ j : Nat, xs[j]? = some y ∧ ps[j]? = some q) → H p = none → Q (.ref p) (upd H p (.lst ys))
section
variable {X : Cx}
open Classical in
theorem cr_sortD : CallR X (.builtin "sorted") (rSortD X.K) := by
  intro pins s σ H vs us Q I r h
  obtain ⟨a, xs, ps, rfl, hs, hl0, hx, q⟩ := h
  obtain ⟨its, rv, hl, hz⟩ := I.list hs
  obtain ⟨u, rfl, ru⟩ := vals1 r
  obtain rfl : u = Value.ref a := ru
  have at_ : ∀ x ∈ xs, ∃ (i : Nat) (q : Int × Int), xs[i]? = some x ∧ ps[i]? = some q := fun x m => by
    obtain ⟨i, hi⟩ := List.mem_iff_getElem?.mp m
    have hlt := (List.getElem?_eq_some_iff.mp hi).1
    exact ⟨i, ps[i], hi, List.getElem?_eq_getElem (by omega)⟩
  let k : V → Int × Int := fun v => if h : ∃ q : Int × Int, ∃ t, v = V.ref t ∧ SqT X.K H t [.int q.1, .int q.2] then Classical.choose h else (0, 0)
  have hk : ∀ (i : Nat) (x : V) (q : Int × Int), xs[i]? = some x → ps[i]? = some q → k x = q := fun i x q e1 e2 => by
    have ex : ∃ q : Int × Int, ∃ t, x = V.ref t ∧ SqT X.K H t [.int q.1, .int q.2] := by
      obtain ⟨t, e, z⟩ := hx i x q e1 e2
      exact ⟨q, t, e, z⟩
    obtain ⟨t, e, z⟩ := hx i x q e1 e2
    obtain ⟨t2, e', z'⟩ := Classical.choose_spec ex
    rw [e] at e'
    cases e'
    have := I.tuple_inj z' z
    simp only [List.cons.injEq, V.int.injEq, and_true] at this
    show (if h : _ then _ else _) = q
    rw [dif_pos ex]
    exact Prod.ext this.1 this.2
  obtain ⟨e1, e2⟩ := refs_back rv fun x m => by
    obtain ⟨i, q, h1, h2⟩ := at_ x m
    obtain ⟨t, e, _⟩ := hx i x q h1 h2
    exact ⟨t, e⟩
  refine SrtO.sorted_pairsO (k := fun u => k (backV u)) hl.isList (by rw [← rv.length]; exact hz) (fun v hv => ?_) fun h' d out h1 h2 kp hd hn => ?_
  · obtain ⟨t, rfl⟩ := e2 v hv
    have hm : V.ref t ∈ xs := by rw [e1]; exact List.mem_map.mpr ⟨_, hv, rfl⟩
    obtain ⟨i, q, g1, g2⟩ := at_ _ hm
    obtain ⟨t', e, ht⟩ := hx i _ q g1 g2
    cases e
    have ek := hk i _ q g1 g2
    have ek' : k (backV (Value.ref t)) = q := ek
    rw [ek']
    obtain ⟨its2, r2, ⟨o, ho, hc, n, hd⟩, _⟩ := I.tuple ht
    obtain ⟨u1, u2, rfl, ri, rj⟩ := vals2 r2
    obtain ⟨t1, rfl⟩ := ri
    obtain ⟨t2, rfl⟩ := rj
    exact ⟨t, o, t1, t2, n, rfl, ho, hc, hd⟩
  · have h3 : ∀ u ∈ out, ∃ a, u = Value.ref a := fun u hu => e2 u (h2.perm.mem_iff.mp hu)
    obtain ⟨n, hn⟩ := hn
    have hb : SrtO.Stb (ltP k) (out.map backV) xs := by
      rw [e1]
      exact SrtO.Stb.map (ltP_swo k) backV h2
    have hxk : xs.map k = ps := by
      apply List.ext_getElem?
      intro i
      rw [List.getElem?_map]
      cases ex : xs[i]? with
      | none => rw [List.getElem?_eq_none (by have := List.getElem?_eq_none_iff.mp ex; omega)]; rfl
      | some x =>
        have hlt := (List.getElem?_eq_some_iff.mp ex).1
        have ep : ps[i]? = some ps[i] := List.getElem?_eq_getElem (by omega)
        rw [ep]
        exact congrArg some (hk i x _ ex ep)
    have hyk : (out.map backV).map k = sortP ps := by
      refine sortP_is ?_ ?_
      · rw [← hxk]; exact hb.perm.map k
      · have h4 : SrtO.Srtd (ltP k) (out.map backV) := SrtO.srtd_map h1
        rw [List.pairwise_map]
        refine h4.imp fun {x y} h => ?_
        have := SrtO.lexB_no.mp h
        omega
    refine ⟨.ref d, upd H d (.lst (out.map backV)), I.laid (t' := s.toks) kp hd ⟨?_, out, n, vals_back h3, hn⟩, rfl, q _ d ?_ (fun i y q' ey eq => ?_) (I.hok.fresh hd)⟩
    · rw [hb.len]
      exact hz
    · rw [hb.len, hl0]
    · have ek : k y = q' := by
        rw [← hyk, List.getElem?_map, ey] at eq
        exact Option.some.inj eq
      have hm : y ∈ xs := hb.perm.mem_iff.mp (List.mem_of_getElem? ey)
      obtain ⟨j, q2, g1, g2⟩ := at_ y hm
      refine ⟨j, g1, ?_⟩
      rw [g2, ← hk j y q2 g1 g2, ek]
end
section
variable {X : Cx} {W : WX} {K : PySem.W.Frag} {H H' H1 H2 : Hp} {φ φ' φ1 φ2 : Ph} {hp hp' hp1 hp2 : Hs} {v : V} {d : D} {vs : List V} {ds xs : List D} {p : Addr} {σ : L2.St} {env env' : Env} {Q : VK}
variable {a b c e e2 e3 tg : Expr} {es : List Expr} {ma mb mc : M D} {pos : Pos} {mas : M (List D)}
def encP (p : Int × Int) : D := .tup [.int p.1, .int p.2]
def pairs? : List D → Option (List (Int × Int))
  | [] => some []
  | .tup [.int i, .int j] :: ds => match pairs? ds with
    | some ps => some ((i, j) :: ps)
    | none => none
  | _ :: _ => none
theorem pairs_map (ps : List (Int × Int)) : pairs? (ps.map encP) = some ps := by
  induction ps with
  | nil => rfl
  | cons p ps ih => rw [List.map_cons]; show (match pairs? (ps.map encP) with | some ps => _ | none => _) = _; rw [ih]
theorem pairs_ok : ∀ {ds : List D} {ps : List (Int × Int)}, pairs? ds = some ps → ds = ps.map encP
  | [], ps, h => by cases h; rfl
  | d :: ds, ps, h => by
    unfold pairs? at h
    split at h
    · rename_i e; cases e
    · rename_i i j ds' e
      cases e
      split at h <;> cases h
      rename_i ps e
      rw [pairs_ok e]; rfl
    · cases h
def gSortP (hp : Hs) (ds : List D) : Option (List D) := match ds with
  | [d] => match look hp d with
    | .lst ys => match pairs? ys with
      | some ps => some ((sortP ps).map encP)
      | none => none
    | _ => none
  | _ => none
theorem reps_of {vs : List V} {ds : List D} (hl : vs.length = ds.length) (h : ∀ (i : Nat) v d, vs[i]? = some v → ds[i]? = some d → Rep K H φ hp v d) : Reps K H φ hp vs ds := by
  induction ds generalizing vs with
  | nil => cases vs with
    | nil => exact .nil
    | cons v vs => simp at hl
  | cons d ds ih => cases vs with
    | nil => simp at hl
    | cons v vs => exact .cons (h 0 v d rfl rfl) (ih (by simpa using hl) fun i v d e1 e2 => h (i + 1) v d (by simpa using e1) (by simpa using e2))
theorem cn_sortP : CallN X (rSortD X.K) gSortP := fun H φ hp vs ds xs s r h Q F => by
  unfold gSortP at h
  split at h
  · have r1 := reps1 r; clear r; obtain ⟨v, rfl, r⟩ := r1
    split at h
    · rename_i ys e
      split at h <;> cases h
      rename_i ps e2
      obtain ⟨a, us, rfl, q, ru⟩ := rep_lst s r e
      have ey := pairs_ok e2
      subst ey
      have hl : us.length = ps.length := by rw [ru.length]; simp
      refine ⟨a, us, ps, rfl, SqL.of q, hl, fun i x q' e3 e4 => ?_, fun zs p hz hj hp0 => ?_⟩
      · obtain ⟨v2, e5, r2⟩ := ru.get (i := i) (d := encP q') (by rw [List.getElem?_map, e4]; rfl)
        rw [e3] at e5; cases e5
        obtain ⟨t, ws, rfl, sq, rw⟩ := rep_tup s r2 (by rfl)
        refine ⟨t, rfl, ?_⟩
        have : ws = [V.int q'.1, V.int q'.2] := Reps.ints (ns := [q'.1, q'.2]) rw
        rw [this] at sq
        exact sq.sq
      · refine F H Ext.refl s p zs hp0 (reps_of (by rw [hz, List.length_map, sortP_len]) fun i v d e3 e4 => ?_)
        rw [List.getElem?_map] at e4
        cases e5 : (sortP ps)[i]? with
        | none => rw [e5] at e4; cases e4
        | some q' =>
          rw [e5] at e4; cases e4
          obtain ⟨j, e6, e7⟩ := hj i v q' e3 e5
          obtain ⟨v2, e8, r2⟩ := ru.get (i := j) (d := encP q') (by rw [List.getElem?_map, e7]; rfl)
          rw [e6] at e8; cases e8
          exact r2
    · cases h
  · cases h
/-! ### sorted(xs, reverse=True), ints -/
/-! ### divmod: taken apart at once -/
end
end Mi
namespace Mi
open PySem L2 PyProof.Rows PySem.Spec
end Mi
-- MirE
set_option Elab.async false
set_option linter.all false
set_option maxRecDepth 100000
set_option maxHeartbeats 2000000
namespace Mi
open PySem L2 PyProof.Rows PySem.Spec
/-- the tables of the written part, still empty -/
def TabF (K : PySem.W.Frag) (h : Heap) : Prop := ∀ p ∈ tabsOf K, h.get? p.1 = some { cls := .none, data := .fields #[] }
/-- what lambdas ask of the heap below -/
def TbB (K : PySem.W.Frag) (mg : Str → Option Value) (base : Heap) : Prop := ∀ p ∈ tabsOf K, mainGlobals ≠ p.1 ∧ base.BuiltinsAt mg p.1
/-- the caller's data: the object's script and the tables -/
def tabH (K : PySem.W.Frag) : Hp := fun b => if b ∈ (tabsOf K).map (·.1) then some (.tbl #[]) else none
def scriptH (K : PySem.W.Frag) (a : Addr) (vs : List Value) (ns : List Int) : Hp := fun b => if b = a then some (.frz { cls := .type "list", data := .seq vs.toArray } (.lst (ns.map V.int))) else tabH K b
theorem tabH_some {K : PySem.W.Frag} {b : Addr} {u : HO} (h : tabH K b = some u) : u = .tbl #[] ∧ ∃ p ∈ tabsOf K, p.1 = b := by
  unfold tabH at h
  split at h
  · rename_i hb
    obtain ⟨p, hp, e⟩ := List.mem_map.mp hb
    exact ⟨(Option.some.inj h).symm, p, hp, e⟩
  · cases h
theorem tabH_at {K : PySem.W.Frag} {p : Addr × Str} (h : p ∈ tabsOf K) : tabH K p.1 = some (.tbl #[]) := if_pos (List.mem_map.mpr ⟨p, h, rfl⟩)
/-- no box yet -/
def φ0 (K : PySem.W.Frag) : Ph := ⟨fun _ => 0, fun a => ∃ p ∈ tabsOf K, p.1 = a⟩
def Tab0 (K : PySem.W.Frag) (H : Hp) : Prop := ∀ p ∈ tabsOf K, H p.1 = some (.tbl #[])
theorem sr0 {K : PySem.W.Frag} {H : Hp} (h0 : Tab0 K H) : SR K H (φ0 K) [] :=
  ⟨fun i j o o' h => by simp at h, fun n o h => by simp at h, fun n o h => by simp at h, fun a ⟨p, hp, e⟩ => .inr (.inl ⟨#[], by rw [← e]; exact h0 p hp⟩), fun p hp => ⟨⟨p, hp, rfl⟩, #[], h0 p hp, True.intro, fun pos cv hc => by
    have z : codeAmong pos [] = some cv := hc
    simp [codeAmong] at z⟩⟩
/-- what the law must come to -/
def LawOk (n : Nat) (g : Fn) : Prop := ∀ ns : List Int, ns.length ≤ n → ∃ hp', g [.frz (ns.map .int)] [] = some (.ok (.bl true), hp')
theorem sp_law {K : PySem.W.Frag} {mg : Str → Option Value} {n : Nat} {g : Fn} (ok : LawOk n g) {H : Hp} {a : Addr} {ns : List Int} (hl : ns.length ≤ n) (h0 : Tab0 K H) (hf : SqF K H a (ns.map V.int)) :
    spOf K mg 1 g [.ref a] H (fun v _ => v = .bl true) (fun _ _ _ => False) := by
  obtain ⟨hp', e⟩ := ok ns hl
  exact ⟨φ0 K, [], _, _, hp', rfl, sr0 h0, .one (.frz hf (Reps.ofInts ns)), e, fun H' φ' x s v r => by cases r; rfl⟩
section
variable {P : Program} {w : World} {K : PySem.W.Frag} {mg mb : Str → Option Value} {CX : CXT} {k : Nat} {fa a : Addr} {fd : FuncData} {x : Str} {sp : Sp} {s₁ : Shared} {vs : List Value} {ns : List Int}
/-- what may be among the data at first: the script, empty tables -/
def First (K : PySem.W.Frag) (a : Addr) (H : Hp) : Prop := ∀ b u, H b = some u → (b = a ∧ ∃ o xs, u = .frz o (.lst xs)) ∨ (u = .tbl #[] ∧ ∃ p ∈ tabsOf K, p.1 = b)
/-- from one heap of data that holds at most the script, and the tables -/
theorem law_at {H : Hp} (KX : K.In s₁.heap) (TF : TabF K s₁.heap) (hns : s₁.heap.Ns mainGlobals mg) (hb : s₁.heap.Ns builtinsNs mb) (hbb : ∀ x : Str, x ≠ "__name__" → mb x = bootBuiltins x) (hlim : s₁.heap.NoLimit) (hg : s₁.gens = #[])
    (bm : ∃ (m : Addr) (ob : Obj), mg "__builtins__" = some (.ref m) ∧ m ≠ builtinsNs ∧ s₁.heap.get? m = some ob ∧ ob.cls = .type "module" ∧ ob.dict = some builtinsNs ∧ ob.data = .plain)
    (ha : s₁.heap.get? a = some { cls := .type "list", data := .seq vs.toArray }) (hr : Room k callerA)
    (F : ∀ base : Heap, K.In base → base.Ns mainGlobals mg → TbB K mg base → FnG P w K mg base CX k fa fd [x] sp) (hbind : ∀ (s : Shared) (u : Value), BindsTo s fd ⟨[u], []⟩ [(x, u)])
    (hCX : ∀ H e s', CX [] H s₁ (fun _ _ _ => False) e s' → False) (one : First K a H) (free : H a ≠ none → K.lookup a = none) (hok : HOk P w H s₁.heap)
    (hsp : sp [.ref a] H (fun v _ => v = .bl true) fun _ _ _ => False) :
    codeAny (model P w) callerA (.call (.ref fa) ⟨[.ref a], []⟩) (fun r s' => r = .ok (.ret (.bool true)) ∧ OldK s₁.heap s'.heap ∧ s'.os = s₁.os ∧ AllBare s'.gens) s₁ := by
  -- what holds neither a list nor a table is below
  have off : ∀ {b : Addr} {o : Obj}, s₁.heap.get? b = some o → (b = a → H a = none) → (∀ p ∈ tabsOf K, p.1 ≠ b) → (hidT s₁.heap H).get? b = some o := fun {b o} e n nt => hidT_get e (by
    cases q : H b with
    | none => rfl
    | some u =>
      rcases one b u q with ⟨z, _⟩ | ⟨_, p, hp, z⟩
      · rw [z, n z] at q
        cases q
      · exact absurd z (nt p hp))
  have tabD : ∀ {b : Addr} {o : Obj}, s₁.heap.get? b = some o → o.data ≠ .fields #[] → ∀ p ∈ tabsOf K, p.1 ≠ b := fun {b o} e n p hp z => by
    have t := TF p hp
    rw [z, e] at t
    cases t
    exact n rfl
  have offD : ∀ {b : Addr} {o : Obj}, s₁.heap.get? b = some o → (∀ us m, o.data ≠ .seq us m) → o.data ≠ .fields #[] → (hidT s₁.heap H).get? b = some o := fun {b o} e h1 h2 => off e (fun z => by
    rw [z, ha] at e
    cases e
    exact absurd rfl (h1 _ _)) (tabD e h2)
  have ns2 : ∀ {b : Addr} {m : Str → Option Value}, s₁.heap.Ns b m → (hidT s₁.heap H).Ns b m := fun {b m} z => by
    obtain ⟨o, es, ep, e, d, r⟩ := z
    exact ⟨o, es, ep, offD e (fun us m z => by rw [d] at z; cases z) (fun z => by rw [d] at z; cases z), d, r⟩
  have k2 : K.In (hidT s₁.heap H) := fun b o e => off (KX b o e) (fun q => by
    cases hz : H a with
    | none => rfl
    | some u =>
      have := free (by rw [hz]; exact Option.some_ne_none u)
      rw [q, this] at e
      cases e) fun p hp z => by
    have := (tabsOf_mem hp).1
    rw [z, e] at this
    cases this
  have lim2 : (hidT s₁.heap H).NoLimit := by
    obtain ⟨mc, h1, h2⟩ := hlim
    exact ⟨mc, ns2 h1, h2⟩
  have tb : TbB K mg (hidT s₁.heap H) := fun p hp => by
    have t := TF p hp
    refine ⟨fun z => ?_, ?_⟩
    · obtain ⟨o, es, ep, e, d, _⟩ := hns
      rw [z, t] at e
      cases e
      cases d
    · obtain ⟨m, ob, b1, b2, b3, b4, b5, b6⟩ := bm
      refine ⟨m, ob, b1, b2, fun q => ?_, fun q => ?_, offD b3 (fun us m z => by rw [b6] at z; cases z) (fun z => by rw [b6] at z; cases z), b4, b5, b6⟩
      · obtain ⟨o, es, ep, e, d, _⟩ := hns
        rw [q, e] at b3
        cases b3
        rw [d] at b6
        cases b6
      · rw [q, t] at b3
        cases b3
        cases b6
  have env0 : Env0 P w K mg (hidT s₁.heap H) callerA [] s₁ H := ⟨rfl, ⟨k2, ns2 hns, ⟨mb, ns2 hb, hbb⟩, lim2⟩, fun b o e => of_hidT e, Nat.le_of_eq (hidT_size _ _), trivial, fun b hb => absurd hb List.not_mem_nil, hok, .of_eq hg⟩
  have go := (F _ k2 (ns2 hns) tb).run callerA [] s₁ H ⟨[.ref a], []⟩ [.ref a] [.ref a] _ _ hr rfl env0 (hbind s₁ (.ref a)) (.cons rfl .nil) hsp
  refine codeAny_mono go fun r s' h => ?_
  match r, h with
  | .error e, h => exact (hCX H e s' h).elim
  | .ok .next, h => exact False.elim h
  | .ok .brk, h => exact False.elim h
  | .ok .cont, h => exact False.elim h
  | .ok (.ret u), h =>
    obtain ⟨v, H', os, bare, un, hok', r', q⟩ := h
    have q' : v = .bl true := q
    subst q'
    obtain rfl : u = Value.bool true := r'
    have stay : ∀ b o, s₁.heap.get? b = some o → (s'.heap.get? b = some o) ∨ ∃ p ∈ tabsOf K, p.1 = b ∧ ∃ more : Array Value, s'.heap.get? b = some { cls := .none, data := .fields more } := fun b o e => by
      cases q : H b with
      | none => exact .inl (un.keep b o e q (fun z => absurd z List.not_mem_nil) (by simp))
      | some u =>
        rcases one b u q with ⟨_, ob, xs, rfl⟩ | ⟨rfl, p, hp, z⟩
        · obtain ⟨e1, _⟩ := hok b _ q
          obtain ⟨e2, _⟩ := hok' b _ (un.frzs b ob _ q)
          rw [e] at e1
          cases e1
          exact .inl e2
        · obtain ⟨more, t⟩ := un.tbls b #[] q
          have t2 := hok' b _ t
          rw [Array.empty_append] at t2
          exact .inr ⟨p, hp, z, more, t2⟩
    refine ⟨rfl, ⟨fun b o e => ?_, fun b o e => ?_⟩, os, bare⟩
    · rcases stay b o e with z | ⟨p, hp, rfl, more, z⟩
      · exact .inl z
      · obtain ⟨_, c, hc⟩ := tabsOf_mem hp
        have t := TF p hp
        rw [t] at e
        cases e
        exact .inr (.inl ⟨((PySem.W.codeHd_of_K KX hc).tab t).isCodeTable, rfl, #[], more, rfl, by rw [Array.empty_append]; exact z⟩)
    · rcases stay b o e with z | ⟨_, _, _, more, z⟩
      · exact ⟨o, z⟩
      · exact ⟨_, z⟩
theorem law_callG (KX : K.In s₁.heap) (TF : TabF K s₁.heap) (hns : s₁.heap.Ns mainGlobals mg) (hb : s₁.heap.Ns builtinsNs mb) (hbb : ∀ x : Str, x ≠ "__name__" → mb x = bootBuiltins x) (hlim : s₁.heap.NoLimit) (hg : s₁.gens = #[])
    (bm : ∃ (m : Addr) (ob : Obj), mg "__builtins__" = some (.ref m) ∧ m ≠ builtinsNs ∧ s₁.heap.get? m = some ob ∧ ob.cls = .type "module" ∧ ob.dict = some builtinsNs ∧ ob.data = .plain)
    (ha : s₁.heap.get? a = some { cls := .type "list", data := .seq vs.toArray }) (hi : IntsAre vs ns) (hl : ns.length ≤ sizeLine) (hr : Room k callerA)
    (F : ∀ base : Heap, K.In base → base.Ns mainGlobals mg → TbB K mg base → FnG P w K mg base CX k fa fd [x] sp) (hbind : ∀ (s : Shared) (u : Value), BindsTo s fd ⟨[u], []⟩ [(x, u)])
    (hsp : ∀ H : Hp, Tab0 K H → SqF K H a (ns.map V.int) → sp [.ref a] H (fun v _ => v = .bl true) fun _ _ _ => False)
    (hCX : ∀ H e s', CX [] H s₁ (fun _ _ _ => False) e s' → False) :
    codeAny (model P w) callerA (.call (.ref fa) ⟨[.ref a], []⟩) (fun r s' => r = .ok (.ret (.bool true)) ∧ OldK s₁.heap s'.heap ∧ s'.os = s₁.os ∧ AllBare s'.gens) s₁ := by
  have rv := vals_ints hi
  have lenV := hi.length
  have tok : ∀ b u, tabH K b = some u → ObjOk P w (tabH K) s₁.heap b u ∧ ∀ H', ObjOk P w H' s₁.heap b u := fun b u e => by
    obtain ⟨rfl, p, hp, rfl⟩ := tabH_some e
    exact ⟨TF p hp, fun _ => TF p hp⟩
  have aT : ∀ p ∈ tabsOf K, p.1 ≠ a := fun p hp z => by
    have t := TF p hp
    rw [z, ha] at t
    cases t
  by_cases hk : K.lookup a = none
  · refine law_at (H := scriptH K a vs ns) KX TF hns hb hbb hlim hg bm ha hr F hbind hCX (fun b u e => ?_) (fun _ => hk) (fun b u e => ?_) (hsp _ (fun p hp => (if_neg (aT p hp)).trans (tabH_at hp)) (.inl ⟨_, if_pos rfl⟩))
    · unfold scriptH at e
      split at e
      · rename_i z
        cases e
        exact .inl ⟨z, _, _, rfl⟩
      · exact .inr (tabH_some e)
    · unfold scriptH at e
      split at e
      · rename_i e2
        cases e
        subst e2
        exact ⟨ha, by rw [List.length_map]; exact hl, vs, _, rv, ha⟩
      · exact (tok b u e).2 _
  · obtain ⟨o, hk⟩ := Option.ne_none_iff_exists'.mp hk
    have e := KX a o hk
    rw [ha] at e
    cases e
    refine law_at (H := tabH K) KX TF hns hb hbb hlim hg bm ha hr F hbind hCX (fun b u e => .inr (tabH_some e)) (fun z => ?_) (fun b u e => (tok b u e).1) (hsp _ (fun p hp => tabH_at hp) (.inr ⟨_, vs.toArray, _, hk, rfl, rfl, rfl, ?_, ?_⟩))
    · refine absurd ?_ z
      cases q : tabH K a with
      | none => rfl
      | some u =>
        obtain ⟨_, p, hp, e⟩ := tabH_some q
        exact absurd e (aT p hp)
    · rw [List.size_toArray, lenV]; exact hl
    · simpa using rv
end
/-- a law from the promise of its def -/
theorem walk_ofG {l : PySem.W.OpenLaw} {n k : Nat} {q : Program} {loose : List Str} {XP : (Str → Option Value) → Heap → Prop} {YP : World → Heap → Prop} {d : DefRec} {CX : World → CXT} {x : Str} {g : Fn}
    (hn : l.most = some n) (hn2 : n ≤ sizeLine) (hdf : d.params.defaults = []) (hr : Room k callerA) (ok : LawOk n g)
    (F : ∀ (w : World) (mg : Str → Option Value) (fa : Addr) (h : Heap), YP w h → h.Ns mainGlobals mg → mg d.name = some (.ref fa) →
      ∃ (K : PySem.W.Frag) (fd : FuncData), K.In h ∧ TabF K h ∧ (∀ (s : Shared) (u : Value), BindsTo s fd ⟨[u], []⟩ [(x, u)]) ∧
        ∀ base : Heap, K.In base → base.Ns mainGlobals mg → TbB K mg base → FnG l.prog w K mg base (CX w) k fa fd [x] (spOf K mg 1 g))
    (hCX : ∀ (w : World) (H : Hp) (s : Shared) (e : Value) (s' : Shared), CX w [] H s (fun _ _ _ => False) e s' → False) :
    PySem.W.WalkO q loose XP YP l.row.toRowW d [] (fun f vs => PySem.call f vs) := by
  refine Att.attach_call hn hdf fun w s₀ s₁ mg mb fa o pm cd doc a vs ns G Y ho hd hcd hmg hobj hints hlen hg => ?_
  obtain ⟨K, fd, KX, TF, hb, hF⟩ := F w mg fa _ Y G.T.g hmg
  exact law_callG KX TF G.T.g G.T.b G.T.builtins G.T.nolimit hg G.T.bmain hobj hints (Nat.le_trans hlen hn2) hr hF hb (fun H h0 hS => sp_law ok hlen h0 hS) fun H e s' => hCX w H s₁ e s'
end Mi
-- MirC
set_option Elab.async false
set_option linter.all false
set_option maxRecDepth 100000
set_option maxHeartbeats 2000000
namespace Mi
open PySem L2 PyProof.Rows PySem.Spec
theorem bo_len : bootBuiltins "len" = some (.builtin "len") := by decide +kernel
theorem bo_abs : bootBuiltins "abs" = some (.builtin "abs") := by decide +kernel
theorem bo_max : bootBuiltins "max" = some (.builtin "max") := by decide +kernel
theorem bo_min : bootBuiltins "min" = some (.builtin "min") := by decide +kernel
theorem bo_sorted : bootBuiltins "sorted" = some (.builtin "sorted") := by decide +kernel
theorem bo_int : bootBuiltins "int" = some (.type "int") := by decide +kernel
theorem bo_tuple : bootBuiltins "tuple" = some (.type "tuple") := by decide +kernel
theorem bo_list : bootBuiltins "list" = some (.type "list") := by decide +kernel
section
variable {P : Program} {w : World} {K : PySem.W.Frag} {mg : Str → Option Value} {base : Heap} {X : Cx} {W : WX}
/-- a def by its name: it can be called with n values -/
def Cal (P : Program) (w : World) (K : PySem.W.Frag) (mg : Str → Option Value) (base : Heap) (x : Str) (k n : Nat) (g : Fn) : Prop :=
  ∃ f fd ps, FnG P w K mg base (L2.CX P w) k f fd ps (spOf K mg n g) ∧ mg x = some (.ref f) ∧ PySem.W.keepIn K (.ref f) = true ∧ Binds K fd ps []
theorem Cal.mono {x : Str} {j k n : Nat} {g : Fn} (c : Cal P w K mg base x j n g) (h : j ≤ k) : Cal P w K mg base x k n g := by
  obtain ⟨f, fd, ps, a, b, c, d⟩ := c
  exact ⟨f, fd, ps, a.mono h, b, c, d⟩
theorem de_callC {e : Expr} {es : List Expr} {pos p : Pos} {x : Str} {j k n : Nat} {g : Fn} {mas : M (List D)} (b : BodyX X W k) (c : Cal X.prog X.w X.K X.mg X.base x j n g) (ha : DA X W (e :: es) mas) (hj : j ≤ k := by decide)
    (hg : Gl X x := by rfl) (hdb : (x == ("__debug__" : Str)) = false := by decide) (he : starEach (e :: es) X.env = (false, eval e X.env) :: starEach es X.env := by rfl) (hpl : (backTo pos (starEach es X.env)).any (·.1) = false := by rfl) :
    DE X W (.Call (.Name x p) (e :: es) [] pos) (mCall n g mas) := by
  obtain ⟨f, fd, ps, a, h1, h2, h3⟩ := c.mono hj
  exact de_call a b.room b.gd b.tk h1 h2 h3 ha hg hdb he hpl
theorem BodyX.blk {k : Nat} {s : Shared} {H : Hp} {scope : Scope} {cenv : PySem.Env} {fp : List Addr} (b : BodyX X W k) : BodyX (X.blk s H scope cenv fp) W0 k where
  room := b.room
  tk := fun u s' ⟨_, _, _, _, _, _, _, _, _, _, _, _, _, _, _, _, z⟩ => z.elim
  po := PassesOwn.never
  gd := b.gd
/-- a def of the row's text -/
theorem cal_of {x : Str} {st : Stmt} {f : Addr} {fd : FuncData} {N ps : List Str} {k : Nat} {body : MS} (F : FunD K x x (defArgs st) (defBody st) (defScope st) [] [] f fd) (S : FnScope N ps (defScope st))
    (D : ∀ (cdv : Value) (A : Around) (outer : List PySem.Env) (s : Shared) (H : Hp) (E : XK), BodyX (cxOf (L2.CX P w) P w K mg base N x (defScope st) f cdv A outer s H E) (fun cls d _ H => E cls d H) k →
      DSs (cxOf (L2.CX P w) P w K mg base N x (defScope st) f cdv A outer s H E) (fun cls d _ H => E cls d H) (defBody st) body) :
    FnG P w K mg base (L2.CX P w) (k + 1) f fd ps (spOf K mg ps.length (runB N.length body)) := by
  obtain ⟨oc, od, dV, kV, doc, pm, an, cdv, ct, osl, rfl, lk, hcd, _, _⟩ := F.ex
  refine fnG_of lk hcd S (fun vs H Q E h => ?_) (fun A outer s H vs Q E hr hgd h => ?_)
  · obtain ⟨_, _, _, _, _, h, _⟩ := h
    exact h
  · obtain ⟨φ, hp, ds, o, hp', hl, sr, r, hg, F⟩ := h
    obtain ⟨t, p, ok⟩ := D cdv A outer s H E ⟨hr, takes_of rfl rfl rfl rfl, passes_of rfl, hgd⟩
    refine ⟨t, p, ?_⟩
    have l := sls_start (N := N) r
    unfold runB at hg
    split at hg
    · rename_i env1 hp1 e
      cases hg
      exact ok (L2.start N vs) H φ _ hp _ _ _ sr l e _ fun σ' H' φ' y s' l' => F H' φ' y s' _ .non
    · rename_i d env1 hp1 e
      cases hg
      exact ok (L2.start N vs) H φ _ hp _ _ _ sr l e _ fun σ' H' φ' y s' l' => F H' φ' y s'
    · rename_i c d env1 hp1 e
      cases hg
      exact ok (L2.start N vs) H φ _ hp _ _ _ sr l e _ fun σ' H' φ' y s' l' => F H' φ' y s'
    · cases hg
end
end Mi
-- MirQ
set_option Elab.async false
set_option linter.all false
set_option maxRecDepth 100000
set_option maxHeartbeats 4000000
namespace Mi
open PySem L2 PyProof.Rows PySem.Spec
/-! ### the distinct ones, ascending -/
def dd : List Int → List Int
  | [] => []
  | [a] => [a]
  | a :: b :: l => if a = b then dd (b :: l) else a :: dd (b :: l)
end Mi
-- MirR
set_option Elab.async false
set_option linter.all false
set_option maxRecDepth 100000
set_option maxHeartbeats 4000000
namespace Mi
open PySem L2 PyProof.Rows PySem.Spec
section
variable {X : Cx} {W : WX} {K : PySem.W.Frag} {H H' H1 H2 : Hp} {φ φ' φ1 φ2 : Ph} {hp hp' hp1 hp2 : Hs} {v : V} {d : D} {vs : List V} {ds xs : List D} {p : Addr} {σ : L2.St} {env env' : Env} {Q : VK}
variable {a b c e e2 e3 tg : Expr} {es : List Expr} {ma mb mc : M D} {pos : Pos} {mas : M (List D)}
/-! ### list(range(a, b)) -/
/-! ### is True, is False -/
def gNotB (hp : Hs) (x y : D) : Option D := match x, y with
  | .bl m, .bl n => some (.bl (!decide (m = n)))
  | _, _ => none
theorem op_notB : OpR X (compareOp .IsNot) (fun x y H Q => ∃ m n, x = .bl m ∧ y = .bl n ∧ Q (.bl (!decide (m = n))) H) := by
  intro pins s σ H x y v u Q I rx ry h
  obtain ⟨m, n, rfl, rfl, q⟩ := h
  cases (show v = Value.bool m from rx)
  cases (show u = Value.bool n from ry)
  by_cases e : m = n
  · subst e
    exact wpAny_isNot_self rfl ⟨.bl false, H, I, rfl, by simpa using q⟩
  · exact wpAny_isNot_other rfl (fun z => e (Value.bool.inj z)) ⟨.bl true, H, I, rfl, by simpa [e] using q⟩
theorem os_notB : OpS X (fun x y H Q => ∃ m n, x = .bl m ∧ y = .bl n ∧ Q (.bl (!decide (m = n))) H) gNotB := fun H φ hp x y d1 d2 d s r1 r2 h Q F => by
  unfold gNotB at h
  split at h <;> cases h
  cases r1
  cases r2
  exact ⟨_, _, rfl, rfl, F H Ext.refl s _ (.bl _)⟩
end
end Mi
-- MirS
set_option Elab.async false
set_option linter.all false
set_option maxRecDepth 100000
set_option maxHeartbeats 4000000
namespace Mi
open PySem L2 PyProof.Rows PySem.Spec
end Mi
-- MirU
set_option Elab.async false
set_option linter.all false
set_option maxRecDepth 100000
set_option maxHeartbeats 4000000
namespace Mi
open PySem L2 PyProof.Rows PySem.Spec
end Mi
-- MirV
set_option Elab.async false
set_option linter.all false
set_option maxRecDepth 100000
set_option maxHeartbeats 4000000
namespace Mi
open PySem L2 PyProof.Rows PySem.Spec HT
/-! ### t[::-1], a tuple -/
end Mi
-- MirW
set_option Elab.async false
set_option linter.all false
set_option maxRecDepth 100000
set_option maxHeartbeats 4000000
namespace Mi
open PySem L2 PyProof.Rows PySem.Spec HT
section
variable {X : Cx} {W : WX} {K : PySem.W.Frag} {H H' H1 H2 : Hp} {φ φ' φ1 φ2 : Ph} {hp hp' hp1 hp2 : Hs} {v : V} {d : D} {vs : List V} {ds xs : List D} {p : Addr} {σ : L2.St} {env env' : Env} {Q : VK}
variable {a b c e : Expr} {es : List Expr} {ma mb mc : M D} {pos : Pos}
theorem rep_locV {n : Nat} (r : Rep K H φ hp v (.loc n)) : v = .ref (φ n) := by cases r; rfl
/-! ### o[i] op= e -/
end
end Mi
-- MirY
set_option Elab.async false
set_option linter.all false
set_option maxRecDepth 100000
set_option maxHeartbeats 4000000
namespace Mi
open PySem L2 PyProof.Rows PySem.Spec HT
end Mi
-- MirM
set_option Elab.async false
set_option linter.all false
set_option maxRecDepth 100000
set_option maxHeartbeats 4000000
namespace Mi
open PySem L2 PyProof.Rows PySem.Spec HT
end Mi
-- MirD
set_option Elab.async false
set_option linter.all false
set_option maxRecDepth 100000
set_option maxHeartbeats 4000000
namespace Mi
open PySem L2 PyProof.Rows PySem.Spec HT
/-! ### dicts with tuples of ints as keys -/
def esQ (qs : List Qd) : List (List Int × Addr × Value) := qs.map fun q => (q.1, q.2.1, q.2.2.2)
def findQ (qs : List Qd) (ns : List Int) : Option Qd := qs.find? fun q => decide (q.1 = ns)
def putQ (qs : List Qd) (ns : List Int) (b : Addr) (y : V) (u : Value) : List Qd :=
  if (findQ qs ns).isSome then qs.map fun q => if q.1 = ns then (q.1, q.2.1, y, u) else q else qs ++ [(ns, b, y, u)]
structure DcF (K : PySem.W.Frag) (H : Hp) (a : Addr) (o : Obj) (qs : List Qd) : Prop where
  at_ : H a = some (dcO a o)
  raw : DRaw a o (esQ qs)
  rel : ∀ q ∈ qs, RelV q.2.2.1 q.2.2.2
  keys : ∀ q ∈ qs, SqT K H q.2.1 (q.1.map V.int)
theorem items_int {P : Program} {w : World} : ∀ {ns : List Int} {us : List Value}, Vals (ns.map V.int) us → ItemsAre (intKind P w) ns us
  | [], _, r => by cases r; exact .nil
  | n :: ns, _, r => by
    cases r with
    | cons r rs =>
      obtain ⟨t, rfl⟩ := r
      exact .cons (by simp [PySem.intKind, Value.isInt]) (items_int rs)
section
variable {X : Cx} {pins : List (Addr × Obj)} {σ : L2.St} {H : Hp} {s : Shared} {a b : Addr} {o : Obj} {qs : List Qd} {ns : List Int}
theorem isKey (I : Inv X pins σ H s) (h : SqT X.K H b (ns.map V.int)) : (tupleKind (intKind X.prog X.w)).is s.heap ns b := by
  obtain ⟨its, rv, ht, _⟩ := I.tuple h
  obtain ⟨ob, h1, h2, n, h3⟩ := (show s.heap.IsTuple b its.toArray from ht)
  exact ⟨ob, _, n, h1, h2, h3, by simpa using items_int rv⟩
theorem DcF.dict (I : Inv X pins σ H s) (D : DcF X.K H a o qs) : s.heap.DictOfH (tupleKind (intKind X.prog X.w)) a (esQ qs) := by
  have x : ObjOk X.prog X.w H s.heap a (dcO a o) := I.hok a _ D.at_
  obtain ⟨h1, _, _⟩ := x
  obtain ⟨_, d2, d3, d4⟩ := D.raw
  obtain ⟨da, ep, e1, e2⟩ := d4 X.prog X.w
  refine ⟨o, da, ep, h1, d2, e1, e2, fun x hx => ?_, d3⟩
  unfold esQ at hx
  obtain ⟨q, hq, rfl⟩ := List.mem_map.mp hx
  exact isKey I (D.keys q hq)
end
end Mi
-- MirF
set_option Elab.async false
set_option linter.all false
set_option maxRecDepth 100000
set_option maxHeartbeats 4000000
namespace Mi
open PySem L2 PyProof.Rows PySem.Spec HT
abbrev Mp := List (List Int × D)
def encE (m : Mp) : List D := m.flatMap fun e => [.tup (e.1.map .int), e.2]
def findM (m : Mp) (ns : List Int) : Option (List Int × D) := m.find? fun e => decide (e.1 = ns)
def putM (m : Mp) (ns : List Int) (d : D) : Mp := if (findM m ns).isSome then m.map fun e => if e.1 = ns then (e.1, d) else e else m ++ [(ns, d)]
theorem BodyX.hu1 {X : Cx} {W : WX} {k : Nat} (b : BodyX X W k) : X.A.units + 1 < cLine := by have := b.hu; omega
section
variable {X : Cx} {W : WX} {K : PySem.W.Frag} {H H' H1 H2 : Hp} {φ φ' φ1 φ2 : Ph} {hp hp' hp1 hp2 : Hs} {v : V} {d : D} {vs : List V} {ds xs : List D} {σ : L2.St} {env env' : Env} {Q : VK} {qs : List Qd} {m : Mp} {ns : List Int}
/-- an entry -/
def QE (K : PySem.W.Frag) (H : Hp) (φ : Ph) (hp : Hs) (q : Qd) (e : List Int × D) : Prop := q.1 = e.1 ∧ SqT K H q.2.1 (q.1.map V.int) ∧ Rep K H φ hp (.ref q.2.1) (.tup (e.1.map .int)) ∧ Rep K H φ hp q.2.2.1 e.2
abbrev QM (K : PySem.W.Frag) (H : Hp) (φ : Ph) (hp : Hs) (qs : List Qd) (m : Mp) : Prop := Paired (QE K H φ hp) qs m
def refQ (qs : List Qd) : List V := qs.flatMap fun q => [V.ref q.2.1, q.2.2.1]
theorem QM.find : ∀ {qs : List Qd} {m : Mp} (ns : List Int), QM K H φ hp qs m → (∀ e, findM m ns = some e → ∃ q, findQ qs ns = some q ∧ Rep K H φ hp q.2.2.1 e.2) ∧ (findQ qs ns).isSome = (findM m ns).isSome
  | [], [], ns, r => ⟨fun e h => (by cases h), rfl⟩
  | [], _ :: _, ns, r => (by cases r)
  | _ :: _, [], ns, r => (by cases r)
  | q :: qs, e :: m, ns, r => by
    cases r with | cons h r =>
    obtain ⟨h1, h2, h3, h4⟩ := h
    obtain ⟨i1, i2⟩ := QM.find ns r
    unfold findM findQ at i1 i2 ⊢
    rw [List.find?_cons, List.find?_cons, h1]
    cases decide (e.1 = ns) with
    | true => exact ⟨fun e' h => by cases h; exact ⟨q, rfl, h4⟩, rfl⟩
    | false => exact ⟨i1, i2⟩
theorem QM.reps : ∀ {qs : List Qd} {m : Mp}, QM K H φ hp qs m → Reps K H φ hp (refQ qs) (encE m)
  | _, _, .nil => .nil
  | _, _, .cons ⟨h1, h2, h3, h4⟩ r => .cons h3 (.cons h4 (QM.reps r))
theorem QM.upd {y : V} {u : Value} (hy : Rep K H φ hp y d) : ∀ {qs : List Qd} {m : Mp}, QM K H φ hp qs m → QM K H φ hp (qs.map fun q => if q.1 = ns then (q.1, q.2.1, y, u) else q) (m.map fun e => if e.1 = ns then (e.1, d) else e)
  | [], [], r => .nil
  | [], _ :: _, r => (by cases r)
  | _ :: _, [], r => (by cases r)
  | q :: qs, e :: m, r => by
    cases r with | cons h r =>
    obtain ⟨h1, h2, h3, h4⟩ := h
    rw [List.map_cons, List.map_cons]
    refine .cons ?_ (QM.upd hy r)
    rw [← h1]
    split
    · exact ⟨rfl, h2, by rw [h1]; exact h3, hy⟩
    · exact ⟨h1, h2, h3, h4⟩
theorem QM.put {b : Addr} {y : V} {u : Value} (r : QM K H φ hp qs m) (hk : SqT K H b (ns.map V.int)) (hb : Rep K H φ hp (.ref b) (.tup (ns.map .int))) (hy : Rep K H φ hp y d) : QM K H φ hp (putQ qs ns b y u) (putM m ns d) := by
  have hf := (r.find ns).2
  unfold putQ putM
  rw [hf]
  split
  · exact r.upd hy
  · exact r.snoc ⟨rfl, hk, hb, hy⟩
theorem QM.len : ∀ {qs : List Qd} {m : Mp}, QM K H φ hp qs m → qs.length = m.length
  | _, _, .nil => rfl
  | _, _, .cons _ r => by rw [List.length_cons, List.length_cons, QM.len r]
/-! ### d[k], k in d -/
/-! ### {} -/
/-! ### d[k] = v -/
end
end Mi
-- MirG
set_option Elab.async false
set_option linter.all false
set_option maxRecDepth 100000
set_option maxHeartbeats 4000000
namespace Mi
open PySem L2 PyProof.Rows PySem.Spec HT
/-! ### exception classes of the module: what is asked of the written part -/
/-- x is caught where c is named -/
def subX (x c : Str) : Bool := decide (x = c) || (decide (c = "CreditError") || decide (c = "ValueError"))
structure ExF (K : PySem.W.Frag) (C : Addr) : Prop where
  oex : OexC K C
  xfc : XfC K C
  exc : ExcC K C
  nov : PySem.W.findIn K (.ref C) "value" = some none
def clB (K : PySem.W.Frag) (C : Addr) : Bool := match K.lookup C with
  | some ⟨.type "type", _, .cls ⟨_, _, .ref C' :: bm, _, _, true, _, _, _, _, false⟩, sl⟩ => decide (C' = C) && (PySem.HandSPX.refsVE bm && (match sl.toList with
    | [_, _, _, _, some (.builtin n), _] => decide (n = "ValueError.__new__")
    | _ => false))
  | _ => false
theorem clB_ok {K : PySem.W.Frag} {C : Addr} (h : clB K C = true) : ∃ nm q N bs bm sn sub ab col dd k0 k1 k2 k3 k5, K.lookup C = some (excClassObj nm q C N bs bm true sn sub ab col dd k0 k1 k2 k3 k5 "ValueError.__new__") ∧ PySem.HandSPX.refsVE bm = true := by
  unfold clB at h
  split at h
  · rename_i d nm bs C' bm N q sn sub ab col sl e
    obtain ⟨h1, h⟩ := Bool.and_eq_true_iff.mp h
    obtain ⟨h2, h⟩ := Bool.and_eq_true_iff.mp h
    have h1 := of_decide_eq_true h1
    split at h
    · rename_i k0 k1 k2 k3 n k5 e2
      have h3 := of_decide_eq_true h
      have e3 : sl = #[k0, k1, k2, k3, some (.builtin n), k5] := by
        obtain ⟨l⟩ := sl
        exact congrArg Array.mk e2
      subst h1 h3 e3
      exact ⟨_, _, _, _, _, _, _, _, _, _, _, _, _, _, _, e, h2⟩
    · cases h
  · cases h
def eqF (a b : Option (Option Value)) : Bool := decide (a = b)
def exfB (K : PySem.W.Frag) (C : Addr) : Bool :=
  clB K C && (eqF (PySem.W.findIn K (.ref C) "__setattr__") (some (some (.builtin "object.__setattr__"))) && (decide (PySem.W.subIn K (.ref C) (.type "BaseException") = some true) && (decide (PySem.W.typeIn K (.ref C) = some (.type "type")) && (PySem.W.keepIn K (.ref C) &&
    (eqF (PySem.W.findIn K (.ref C) "__getattribute__") (some (some (.builtin "BaseException.__getattribute__"))) && (eqF (PySem.W.findIn K (.ref C) "__getattr__") (some none) && (PySem.W.hasDictIn K C && (eqF (PySem.W.findIn K (.ref C) "__class__") (some (some (.builtin "object.__class__"))) &&
      (eqF (PySem.W.specialIn K (.builtin "object.__class__") "__get__") (some (some (.builtin "getset_descriptor.__get__"))) && (decide (PySem.W.takesIn K (.builtin "object.__class__") = some true) && (decide (PySem.W.mroIn K C (.type "object") = some true) && eqF (PySem.W.findIn K (.ref C) "value") (some none))))))))))))
theorem exfB_ok {K : PySem.W.Frag} {C : Addr} (h : exfB K C = true) : ExF K C := by
  unfold exfB at h
  simp only [Bool.and_eq_true, eqF, decide_eq_true_eq] at h
  obtain ⟨h1, h2, h3, h4, h5, h6, h7, h8, h9, h10, h11, h12, h13⟩ := h
  exact ⟨⟨clB_ok h1, h2, h3, h4, h5⟩, ⟨h6, h7, h3, h8⟩, ⟨h6, h7, h3, h8, h9, h10, h11, h12⟩, h13⟩
/-- the value of a class's name in the text -/
def clsV (K : PySem.W.Frag) (y : Str) : Value := if y = "ValueError" then .type "ValueError" else .ref (He.ga K y)
/-- all that is asked: cl the classes that are raised, CreditError above them -/
def xsB (K : PySem.W.Frag) (cl : List Str) : Bool := (((("CreditError" : Str) :: ("ValueError" : Str) :: cl).all fun y => decide (PySem.W.kitOne K (.type "NoneType") (clsV K y) = some false)) && eqF (PySem.W.nsIn K mainGlobals "CreditError") (some (some (.ref (He.ga K "CreditError"))))) && cl.all fun x => !decide (x = "ValueError") && (exfB K (He.ga K x) && (eqF (PySem.W.nsIn K mainGlobals x) (some (some (.ref (He.ga K x)))) &&
  (("CreditError" : Str) :: ("ValueError" : Str) :: cl).all fun y => decide (PySem.W.exmOne K (.ref (He.ga K x)) (clsV K y) = some (subX x y)) && (decide (PySem.W.kitOne K (.ref (He.ga K x)) (clsV K y) = some (subX x y)))))
structure Xs (K : PySem.W.Frag) (cl : List Str) : Prop where
  o : ∀ y ∈ ("CreditError" : Str) :: ("ValueError" : Str) :: cl, PySem.W.kitOne K (.type "NoneType") (clsV K y) = some false
  ce : PySem.W.nsIn K mainGlobals "CreditError" = some (some (.ref (He.ga K "CreditError")))
  f : ∀ x ∈ cl, ExF K (He.ga K x)
  n : ∀ x ∈ cl, CnAt K x (He.ga K x)
  m : ∀ x ∈ cl, ∀ y ∈ ("CreditError" : Str) :: ("ValueError" : Str) :: cl, PySem.W.exmOne K (.ref (He.ga K x)) (clsV K y) = some (subX x y)
  k : ∀ x ∈ cl, ∀ y ∈ ("CreditError" : Str) :: ("ValueError" : Str) :: cl, PySem.W.kitOne K (.ref (He.ga K x)) (clsV K y) = some (subX x y)
theorem xsB_ok {K : PySem.W.Frag} {cl : List Str} (h : xsB K cl = true) : Xs K cl := by
  obtain ⟨h0, h⟩ := Bool.and_eq_true_iff.mp h
  obtain ⟨h0, h9⟩ := Bool.and_eq_true_iff.mp h0
  have g := List.all_eq_true.mp h
  refine ⟨fun y hy => of_decide_eq_true (List.all_eq_true.mp h0 y hy), of_decide_eq_true h9, fun x hx => ?_, fun x hx => ?_, fun x hx y hy => ?_, fun x hx y hy => ?_⟩ <;> have q := g x hx <;> simp only [Bool.and_eq_true, eqF, decide_eq_true_eq] at q
  · exact exfB_ok q.2.1
  · exact q.2.2.1
  · have z := List.all_eq_true.mp q.2.2.2 y hy
    simp only [Bool.and_eq_true, decide_eq_true_eq] at z
    exact z.1
  · have z := List.all_eq_true.mp q.2.2.2 y hy
    simp only [Bool.and_eq_true, decide_eq_true_eq] at z
    exact z.2
/-! ### the text's Hook: names, defs, the classes -/
abbrev AlG : Type := He.AlD × Bool
def asX (g : Addr → Option Obj) (n : Nat) : List Addr := cStatics :: He.asD g n
/-! ### CreditError.__init__(self, text) -/
structure CeF (K : PySem.W.Frag) (mg : Str → Option Value) : Prop where
  at_ : mg "CreditError" = some (.ref (He.ga K "CreditError"))
  rd : PySem.W.readsIn K (He.ga K "CreditError") (.type "type") = true
  ga : PySem.W.specialIn K (.ref (He.ga K "CreditError")) "__getattribute__" = some (some (.builtin "type.__getattribute__"))
  fi : PySem.W.findCls K (.ref (He.ga K "CreditError")) (.type "type") "__init__" = some (.val (.builtin "ValueError.__init__"))
def isInitVal : Option PySem.W.CFound → Bool
  | some (.val (.builtin n)) => decide (n = "ValueError.__init__")
  | _ => false
theorem isInitVal_ok {o : Option PySem.W.CFound} (h : isInitVal o = true) : o = some (.val (.builtin "ValueError.__init__")) := by
  unfold isInitVal at h
  split at h
  · rw [of_decide_eq_true h]
  · cases h
def ceB (K : PySem.W.Frag) : Bool := PySem.W.readsIn K (He.ga K "CreditError") (.type "type") && (eqF (PySem.W.specialIn K (.ref (He.ga K "CreditError")) "__getattribute__") (some (some (.builtin "type.__getattribute__"))) && isInitVal (PySem.W.findCls K (.ref (He.ga K "CreditError")) (.type "type") "__init__"))
theorem ceB_ok {K : PySem.W.Frag} {mg : Str → Option Value} (h : ceB K = true) (hm : mg "CreditError" = some (.ref (He.ga K "CreditError"))) : CeF K mg := by
  unfold ceB at h
  simp only [Bool.and_eq_true, eqF, decide_eq_true_eq] at h
  exact ⟨hm, h.1, h.2.1, isInitVal_ok h.2.2⟩
section
variable {X : Cx} {e : Expr} {es : List Expr} {ta : TA} {p p1 p2 pos : Pos}
theorem pe_ceinit {pl : Sem Bool} (hg : Gl X "CreditError") (C : CeF X.K X.mg) (ha : PA X (e :: es) ta)
    (hc : eval (.Call (.Attribute (.Name "CreditError" p1) "__init__" p2) (e :: es) [] pos) X.env = (do
      let ov ← eval (.Name "CreditError" p1) X.env
      standAt p2.atName
      let (f, first) ← holding [ov] (getMethod ov "__init__" pl)
      callWith pos f first (backTo pos (starEach (e :: es) X.env)) (backToKw pos (keywordEach [] X.env))) := by rfl)
    (he : starEach (e :: es) X.env = (false, eval e X.env) :: starEach es X.env := by rfl) (hpl : (backTo pos (starEach es X.env)).any (·.1) = false := by rfl) :
    PE X (.Call (.Attribute (.Name "CreditError" p1) "__init__" p2) (e :: es) [] pos) (tVeI X.K ta) := by
  refine ⟨fun pins s σ H Q I h => ?_⟩
  refine PySem.W.methodCall_KW (ld_glob I hg C.at_ ?_ (by decide)) hc
  refine PySem.W.method_cls I.kIn C.ga (PySem.W.cls_value I.kIn C.rd C.fi rfl ?_)
  show wpAny _ _ (callWith pos (Value.builtin "ValueError.__init__") [] (backTo pos (starEach (e :: es) X.env)) []) _ _ _
  refine PyProof.Rows.callWith_method1 (thn (ha.run pos pins _ σ H _ (I.tok _) h) fun us s1 hh => ?_) he hpl
  obtain ⟨vs, H1, I1, r1, a, C, ws, ev, hl, T, ea, q⟩ := hh
  subst ev
  cases r1 with
  | @cons _ u0 _ ur ra rw' =>
    obtain rfl : u0 = Value.ref a := ra
    have hw := Paired.length rw'
    refine oinit_ok T I1 ea (by rw [sizeLine_eq]; omega) fun s' J => ⟨.non, H1, J, rfl, q⟩
end
end Mi
-- MirH
set_option Elab.async false
set_option linter.all false
set_option maxRecDepth 100000
set_option maxHeartbeats 4000000
namespace Mi
open PySem L2 PyProof.Rows PySem.Spec HT
/-! ### __init__ of the exceptions -/
def spI1 (K : PySem.W.Frag) : Sp := fun vs H Q E => ∃ a v C, vs = [.ref a, v] ∧ OexC K C ∧ PySem.W.findIn K (.ref C) "value" = some none ∧ H a = some (exo a C none) ∧
  ∀ dx, H dx = none → dx ≠ a → Q .non (upd (upd H dx (exd dx [(("value" : Str), v)])) a (exo a C (some dx)))
section
variable {P : Program} {w : World} {K : PySem.W.Frag} {mg : Str → Option Value} {base : Heap}
theorem init1_of {qual : Str} {st : Stmt} {f : Addr} {fd : FuncData} {m : Str} (F : FunD K "__init__" qual (defArgs st) (defBody st) (defScope st) [] [] f fd) (S : FnScope ["self", "value"] ["self", "value"] (defScope st))
    (D : ∀ (cdv : Value) (A : Around) (outer : List PySem.Env) (s : Shared) (H : Hp) (E : XK), PSs (cxOf (L2.CX P w) P w K mg base ["self", "value"] qual (defScope st) f cdv A outer s H E) (defBody st) (tSeq (tDrop (tVeI K (tCons (tVar 0) (tCons (tC (.str m)) tNil)))) (tOst K "value" (tVar 0) (tVar 1)))) :
    FnOk P w K mg base (L2.CX P w) 1 f fd ["self", "value"] (spI1 K) := by
  refine (He5.fun_of F).okX S (fun vs H Q E h => ?_) fun cdv A outer s H vs Q E hr h => ?_
  · obtain ⟨a, v, C, rfl, _⟩ := h; rfl
  · obtain ⟨a, v, C, rfl, oe, nv, ha, q⟩ := h
    refine ⟨_, D cdv A outer s H E, ?_⟩
    refine ⟨.ref a, rfl, a, C, [.str m], rfl, (by show (1 : Nat) ≤ 1000; decide), oe, ha, ?_⟩
    exact ⟨v, rfl, .ref a, rfl, a, C, rfl, oe, nv, .inl ⟨ha, fun dx h1 h2 => q dx h1 h2⟩⟩
end
/-! ### raise -/
/-- a class that can be raised: its name, its __init__ with n values -/
structure Rs1 (P : Program) (w : World) (K : PySem.W.Frag) (mg : Str → Option Value) (base : Heap) (x : Str) : Prop where
  at_ : mg x = some (.ref (He.ga K x))
  f : ExF K (He.ga K x)
  i : ∃ fI fd, PySem.W.findIn K (.ref (He.ga K x)) "__init__" = some (some (.ref fI)) ∧ PySem.W.typeIn K (.ref fI) = some (.type "function") ∧ FnOk P w K mg base (L2.CX P w) 1 fI fd ["self", "value"] (spI1 K) ∧ Binds K fd ["self", "value"] []
def sRaise1 (x : Str) (m : M D) : MS := sE m fun d env hp => some (.ex x (some d), env, hp)
section
variable {X : Cx} {W : WX} {K : PySem.W.Frag} {H H' H1 H2 : Hp} {φ φ' φ1 φ2 : Ph} {hp hp' hp1 hp2 : Hs} {v : V} {d : D} {vs : List V} {ds xs : List D} {p : Addr} {σ : L2.St} {env env' : Env} {Q : VK}
variable {a b c e : Expr} {es : List Expr} {ma mb mc : M D} {pos pos' p1 : Pos}
theorem xd_heap {a dx : Addr} {C : Addr} {v : V} (ha : H a = none) (ne : dx ≠ a) : upd (L2.del (upd (upd (upd H a (exo a C none)) dx (exd dx [(("value" : Str), v)])) a (exo a C (some dx))) a) dx (.xd [(("value" : Str), v)]) = upd H dx (.xd [(("value" : Str), v)]) := by
  funext b
  by_cases h1 : b = dx
  · subst h1; rw [upd_same, upd_same]
  · rw [upd_ne h1, upd_ne h1]
    by_cases h2 : b = a
    · subst h2; rw [L2.del_same, ha]
    · rw [L2.del_ne h2, upd_ne h2, upd_ne h1, upd_ne h2]
theorem ds_raise1 {x : Str} {k : Nat} (b : BodyX X W k) (R : Rs1 X.prog X.w X.K X.mg X.base x) (he : DE X W e ma) (hc : X.calm = true := by rfl) (hk : 2 ≤ k := by decide) (hg : Gl X x := by rfl) (hdb : (x == ("__debug__" : Str)) = false := by decide)
    (hs : starEach [e] X.env = (false, eval e X.env) :: starEach [] X.env := by rfl) (hpl : (backTo pos (starEach [] X.env)).any (·.1) = false := by rfl) : DS X W (.Raise (some (.Call (.Name x p1) [e] [] pos)) none pos') (sRaise1 x ma) := by
  obtain ⟨fI, fd, iC, tI, F1, hb⟩ := R.i
  obtain ⟨t, q, ke⟩ := he
  refine ⟨_, ps_raise hc b.tk (pmk_oex (ds := []) (dvs := []) R.f.oex iC tI F1 (b.room.mono hk) hb .nil passL hg R.at_ (pa_cons q pa_nil hs) hdb hs hpl), fun σ H φ env hp fl env' hp' s l h D F => ?_⟩
  refine ts_stepE ke s l h F fun z hp1 H1 φ1 v h1 s1 l1 r1 y1 F1 => ?_
  cases h1
  refine ⟨by show 1 ≤ 1000; decide, fun a ha => ?_⟩
  refine ⟨a, v, He.ga X.K x, rfl, R.f.oex, R.f.nov, upd_same, fun dx hd hne => ?_⟩
  rw [upd_ne hne] at hd
  refine ⟨rfl, dx, [(("value" : Str), v)], upd_same, by rw [upd_ne hne, upd_same], hd, ?_⟩
  rw [xd_heap ha hne]
  have y2 := Ext.new (u := .xd [(("value" : Str), v)]) s1 hd
  exact F1 σ _ φ1 y2 (s1.new hd) (l1.mono s1 y2) _ _ ⟨_, R.at_, rfl, dx, v, rfl, upd_same, r1.mono s1 y2⟩
end
end Mi
-- MirJ
set_option Elab.async false
set_option linter.all false
set_option maxRecDepth 100000
set_option maxHeartbeats 4000000
namespace Mi
open PySem L2 PyProof.Rows PySem.Spec HT
end Mi
-- MirK
set_option Elab.async false
set_option linter.all false
set_option maxRecDepth 100000
set_option maxHeartbeats 4000000
namespace Mi
open PySem L2 PyProof.Rows PySem.Spec HT
end Mi
-- MirO
set_option Elab.async false
set_option linter.all false
set_option maxRecDepth 100000
set_option maxHeartbeats 4000000
/-! the exception classes of a law: all that a walk asks of them, from the head's hook -/
namespace Mi
open PySem L2 PyProof.Rows PySem.Spec HT
abbrev iAd (K : PySem.W.Frag) (x : Str) : Addr := He.fAd K (x, some "__init__")
def inB (K : PySem.W.Frag) (cl : List Str) : Bool := cl.all fun x => eqF (PySem.W.findIn K (.ref (He.ga K x)) "__init__") (some (some (.ref (iAd K x)))) && decide (PySem.W.typeIn K (.ref (iAd K x)) = some (.type "function"))
def exB (cl : List Str) (K : PySem.W.Frag) : Bool := xsB K cl && (ceB K && inB K cl)
structure ExC (K : PySem.W.Frag) (mg : Str → Option Value) (cl : List Str) : Prop where
  T : Xs K cl
  ce : CeF K mg
  mg : ∀ y ∈ ("CreditError" : Str) :: cl, mg y = some (.ref (He.ga K y))
  ini : ∀ x ∈ cl, PySem.W.findIn K (.ref (He.ga K x)) "__init__" = some (some (.ref (iAd K x))) ∧ PySem.W.typeIn K (.ref (iAd K x)) = some (.type "function")
theorem exC_of {K : PySem.W.Frag} {h : Heap} {mg : Str → Option Value} {cl : List Str} (X : K.In h) (G : h.Ns mainGlobals mg) (e : exB cl K = true) : ExC K mg cl := by
  obtain ⟨e1, e⟩ := Bool.and_eq_true_iff.mp e
  obtain ⟨e2, e3⟩ := Bool.and_eq_true_iff.mp e
  have T := xsB_ok e1
  have m : ∀ y ∈ ("CreditError" : Str) :: cl, mg y = some (.ref (He.ga K y)) := fun y hy => by
    rcases List.mem_cons.mp hy with rfl | hy
    · exact PySem.W.mg_of X G T.ce
    · exact PySem.W.mg_of X G (T.n y hy)
  refine ⟨T, ceB_ok e2 (m _ List.mem_cons_self), m, fun x hx => ?_⟩
  have q := List.all_eq_true.mp e3 x hx
  simp only [Bool.and_eq_true, eqF, decide_eq_true_eq] at q
  exact q
section
variable {P : Program} {w : World} {K : PySem.W.Frag} {mg : Str → Option Value} {base : Heap} {cl : List Str} {x qual m : Str} {st : Stmt} {fd : FuncData}
theorem rs1_of (xc : ExC K mg cl) (hx : x ∈ cl) (F : FunD K "__init__" qual (defArgs st) (defBody st) (defScope st) [] [] (iAd K x) fd) (S : FnScope ["self", "value"] ["self", "value"] (defScope st))
    (D : ∀ (cdv : Value) (A : Around) (outer : List PySem.Env) (s : Shared) (H : Hp) (E : XK), PSs (cxOf (L2.CX P w) P w K mg base ["self", "value"] qual (defScope st) (iAd K x) cdv A outer s H E) (defBody st) (tSeq (tDrop (tVeI K (tCons (tVar 0) (tCons (tC (.str m)) tNil)))) (tOst K "value" (tVar 0) (tVar 1))))
    (hb : ∀ (kV doc pm : Value) (an : Option Addr) (cdv ct : Value) (us : List Value), us.length = (["self", "value"] : List Str).length → bindArgs (PySem.W.fnOf "__init__" qual (defArgs st) (defBody st) (defScope st) .none kV doc pm an cdv ct) ⟨us, []⟩ = pure ((["self", "value"] : List Str).zip us)) : Rs1 P w K mg base x :=
  ⟨xc.mg x (List.mem_cons_of_mem _ hx), xc.T.f x hx, _, fd, (xc.ini x hx).1, (xc.ini x hx).2, init1_of F S D, F.bindsN hb⟩
end
end Mi
-- MirPr
set_option Elab.async false
set_option linter.all false
set_option maxRecDepth 100000
set_option maxHeartbeats 4000000
namespace Mi
open PySem L2 PyProof.Rows PySem.Spec HT
/-! ### tuples of ints in their order -/
end Mi
-- MirPs
set_option Elab.async false
set_option linter.all false
set_option maxRecDepth 100000
set_option maxHeartbeats 4000000
namespace Mi
open PySem L2 PyProof.Rows PySem.Spec HT
section
variable {X : Cx} {W : WX} {K : PySem.W.Frag} {H H' H1 H2 : Hp} {φ φ' φ1 φ2 : Ph} {hp hp' hp1 hp2 : Hs} {v : V} {d : D} {vs : List V} {ds xs : List D} {σ : L2.St} {env env' : Env} {Q : VK} {qs : List Qd} {m : Mp} {ns : List Int} {ma mb : M D} {e : Expr} {es : List Expr} {pos q q2 pos2 : Pos} {mas : M (List D)}
/-! ### d.get(k, x), d.get(k) -/
theorem DcF.plain {pins : List (Addr × Obj)} {σ : L2.St} {s : Shared} {a : Addr} {o : Obj} (I : Inv X pins σ H s) (D : DcF X.K H a o qs) : s.heap.get? a = some o := by
  have x : ObjOk X.prog X.w H s.heap a (dcO a o) := I.hok a _ D.at_
  exact x.1
/-! ### sorted(d) -/
/-! ### len(set(xs)), xs a list of tuples of ints -/
end
end Mi
-- MirPu
set_option Elab.async false
set_option linter.all false
set_option maxRecDepth 100000
set_option maxHeartbeats 4000000
namespace Mi
open PySem L2 PyProof.Rows PySem.Spec HT
/-! ### min(xs), xs a list of pairs (int, tuple of ints) -/
end Mi
-- MirLa
set_option Elab.async false
set_option linter.all false
set_option maxRecDepth 100000
set_option maxHeartbeats 4000000
/-! ### lambdas without parameters, handed to a def -/
namespace Mi
open PySem L2 PyProof.Rows PySem.Spec
section
variable {X : Cx} {W : WX} {K : PySem.W.Frag} {H H' H1 : Hp} {φ φ' : Ph} {hp hp' : Hs} {σ : L2.St} {env : Env} {pins : List (Addr × Obj)} {s : Shared}
/-- a table grows by one code object, or stays -/
def Grown (H H1 : Hp) (P : Addr) (q : Str) : Prop := H1 = H ∨ ∃ (ps : Array Value) (cn : Addr) (u v : Value), H P = some (.tbl ps) ∧ H cn = none ∧
  H1 = upd (upd H P (.tbl (ps ++ #[u, v, .ref cn]))) cn (LamX.CodeO cn q) ∧ (TriplesOk ps.toList → TriplesOk (ps ++ #[u, v, .ref cn]).toList) ∧
  ∀ (pos : Pos) (cv : Value), TriplesOk ps.toList → codeAmong pos (ps ++ #[u, v, .ref cn]).toList = some cv → codeAmong pos ps.toList = some cv ∨ cv = .ref cn
theorem grown_ok {P : Addr} {q : Str} (s : SR K H φ hp) (g : Grown H H1 P q) (hm : (P, q) ∈ tabsOf K) (hu : ∀ p ∈ tabsOf K, p.1 = P → p.2 = q) : Ext H φ hp H1 φ hp ∧ SR K H1 φ hp := by
  rcases g with rfl | ⟨ps, cn, u, v, hP, hn, rfl, ht, hc⟩
  · exact ⟨Ext.refl, s⟩
  have zP : φ.Z P := (s.tb _ hm).1
  have ne : P ≠ cn := ne_of_none hP hn
  have at_ : ∀ {b : Addr}, b ≠ P → b ≠ cn → upd (upd H P (.tbl (ps ++ #[u, v, .ref cn]))) cn (LamX.CodeO cn q) b = H b := fun {b} h1 h2 => by rw [upd_ne h2, upd_ne h1]
  have atP : upd (upd H P (.tbl (ps ++ #[u, v, .ref cn]))) cn (LamX.CodeO cn q) P = some (.tbl (ps ++ #[u, v, .ref cn])) := by rw [upd_ne ne, upd_same]
  have nN : ∀ {b : Addr} {w : HO}, H b = some w → b ≠ cn := fun h => ne_of_none h hn
  have x : Ext H φ hp (upd (upd H P (.tbl (ps ++ #[u, v, .ref cn]))) cn (LamX.CodeO cn q)) φ hp := by
    refine ⟨⟨Nat.le_refl _, fun _ _ => rfl, fun b w h no => ?_, fun b o => .inl o, fun b z nt => ?_, fun _ ks xs h => ⟨ks, xs, h⟩⟩, fun b w h => ?_, rfl⟩
    · rw [at_ (fun e => no (by rw [e]; exact .inr zP)) (nN h)]
      exact h
    rotate_left
    · by_cases e : b = P
      · rw [e]
        exact ⟨_, atP⟩
      · exact ⟨w, by rw [at_ e (nN h)]; exact h⟩
    · refine at_ (fun e => nt ps (by rw [e]; exact hP)) fun e => ?_
      rcases s.zs b z with ⟨_, q⟩ | ⟨_, q⟩ | ⟨_, q⟩ <;> (rw [e, hn] at q; cases q)
  refine ⟨x, s.inj, fun n o h => ?_, s.zn, fun b z => ?_, fun p hin => ?_⟩
  · have nP : φ n ≠ P := by
      cases hk : isLk o with
      | false => exact fun e => s.zn n o h hk (by rw [e]; exact zP)
      | true =>
        cases o <;> first | cases hk | skip
        intro e
        cases s.obs n _ h with
        | lkd q _ =>
          obtain ⟨_, q⟩ := q.at_
          rw [e, hP] at q
          cases q
    have k : ∀ w, H (φ n) = some w → upd (upd H P (.tbl (ps ++ #[u, v, .ref cn]))) cn (LamX.CodeO cn q) (φ n) = some w := fun w e => by rw [at_ nP (nN e)]; exact e
    cases s.obs n o h with
    | lst q r => exact .lst (k _ q) (r.mono s x)
    | dic q r => exact .dic (k _ q) (r.mono s x)
    | dct q r => exact .dct (q.up k) (r.mono s x)
    | lkd q r => exact .lkd (q.up k) (r.mono s x)
    | ins q r => exact .ins (k _ q) (r.mono s x)
  · by_cases e : b = P
    · rw [e]
      exact .inr (.inl ⟨_, atP⟩)
    · rcases s.zs b z with ⟨w, h⟩ | ⟨w, h⟩ | ⟨w, h⟩
      · exact .inl ⟨w, by rw [at_ e (nN h)]; exact h⟩
      · exact .inr (.inl ⟨w, by rw [at_ e (nN h)]; exact h⟩)
      · exact .inr (.inr ⟨w, by rw [at_ e (nN h)]; exact h⟩)
  · obtain ⟨z, qs, h1, h2, h3⟩ := s.tb p hin
    refine ⟨z, ?_⟩
    have old : ∀ {c : Addr}, H c = some (LamX.CodeO c p.2) → ¬ own φ hp c → upd (upd H P (.tbl (ps ++ #[u, v, .ref cn]))) cn (LamX.CodeO cn q) c = some (LamX.CodeO c p.2) := fun {c} h no => x.kp _ _ h no
    by_cases e : p.1 = P
    · have e2 := hu p hin e
      rw [e, hP] at h1
      cases h1
      refine ⟨_, by rw [e]; exact atP, ht h2, fun pos cv h => ?_⟩
      rcases hc pos cv h2 h with h | h
      · obtain ⟨c, e3, h4, no⟩ := h3 pos cv h
        exact ⟨c, e3, old h4 no, no⟩
      · exact ⟨cn, h, by rw [e2]; exact upd_same, s.fresh hn⟩
    · refine ⟨qs, by rw [at_ e (nN h1)]; exact h1, h2, fun pos cv h => ?_⟩
      obtain ⟨c, e3, h4, no⟩ := h3 pos cv h
      exact ⟨c, e3, old h4 no, no⟩
/-- the making of a lambda: what it lays, what stays -/
theorem lam_made {X : Cx} {pins : List (Addr × Obj)} {σ : L2.St} {H : Hp} {s : Shared} {c P : Addr} {args : Arguments} {body : Expr} {scope : Scope} {pos : Pos} {E Q : Value → Shared → Prop} (I : Inv X pins σ H s) (TB : LamX.TabB X.base X.mg c P) (hcode : X.env.code = .ref c)
    (hT : LamX.TabS H P (X.env.qual ++ "<lambda>")) (hdef : defaultsOf args X.env = ([], [])) (hfree : ∀ y ∈ scope.names, y.2 = .free → ∃ c, X.env.cells.lookup y.1 = some c)
    (go : ∀ (f c' : Addr) (pm ctv : Value) (H1 : Hp) (s' : Shared), Inv X pins σ H1 s' → Grown H H1 P (X.env.qual ++ "<lambda>") →
      s'.heap.get? f = some (PySem.W.kla_obj "<lambda>" (X.env.qual ++ "<lambda>") args body scope (cloFrom X.env.cells scope.names []) pm c' ctv) → H1 f = none → f ∉ frs X.stack →
      H1 c' = some (LamX.CodeO c' (X.env.qual ++ "<lambda>")) → ((∃ (p' : Pos) (ps : Array Value), H P = some (.tbl ps) ∧ codeAmong p' ps.toList = some (.ref c')) ∨ H c' = none) → Q (.ref f) s') :
    wpAny (model X.prog X.w) X.A (eval (.Lambda args body scope pos) X.env) Q E s := by
  obtain ⟨ps, hP, ok3, known⟩ := hT
  have low : ∀ g, s.heap.objs.size ≤ g → g ∉ frs X.stack := by
    intro g hg hmem
    rcases List.mem_cons.mp (I.stkSub _ hmem) with rfl | hmem2
    · exact absurd (Nat.lt_of_lt_of_le I.lt hg) (Nat.lt_irrefl _)
    · exact I.nofs hg hmem2
  have tabAt : s.heap.get? P = some { cls := .none, data := .fields ps } := I.hok P _ hP
  refine PySem.W.kla_eval hdef ?_
  cases look : codeAmong pos ps.toList with
  | some cv =>
    obtain ⟨c', rfl, hco⟩ := known pos cv look
    refine PySem.W.kla_makeFunctionHit (mg := X.mg) (c := c) (P := P) (ps := ps) (closure_ok hfree) I.ok.glob (I.mod.glob.keeps I.bk) hcode (TB.code.keeps I.bk) tabAt ok3 look (TB.bm.keeps I.bk) fun ctv h' tk grow big => ?_
    have J : Inv X pins σ H { s with heap := h'.push (PySem.W.kla_obj "<lambda>" (X.env.qual ++ "<lambda>") args body scope (cloFrom X.env.cells scope.names []) ((X.mg "__name__").getD .none) c' ctv), toks := tk } :=
      I.kept fun b o e => Heap.get?_push_of_some _ (grow b o e)
    exact go _ c' _ ctv H _ J (.inl rfl) (Heap.get?_push_size _ rfl) (I.hok.fresh big) (low _ big) hco (.inl ⟨pos, ps, hP, look⟩)
  | none =>
    refine PySem.W.kla_makeFunction (mg := X.mg) (c := c) (P := P) (ps := ps) (closure_ok hfree) I.ok.glob (I.mod.glob.keeps I.bk) hcode (TB.code.keeps I.bk) tabAt ok3 look TB.gP (TB.bm.keeps I.bk) fun c' ctv h' tk grow above below rec_ tab2 => ?_
    obtain ⟨c2, oc, fs, tt, z, hoc, hfs, hnm⟩ := rec_
    cases z
    have new : H c' = none := I.hok.fresh above
    have J := LamX.inv_table (t' := tk) (more := #[rawInt pos.line, rawInt pos.col, .ref c']) (q := X.env.qual ++ "<lambda>") (h' := h'.push (PySem.W.kla_obj "<lambda>" (X.env.qual ++ "<lambda>") args body scope (cloFrom X.env.cells scope.names []) ((X.mg "__name__").getD .none) c' ctv)) I hP
      (fun b o hb e => Heap.get?_push_of_some _ (grow b o hb e)) (Heap.get?_push_of_some _ tab2) above ⟨oc, fs, tt, Heap.get?_push_of_some _ hoc, hfs, hnm⟩
    have flat : (ps ++ #[rawInt pos.line, rawInt pos.col, .ref c']).toList = ps.toList ++ [rawInt pos.line, rawInt pos.col, .ref c'] := by simp
    have far : s.heap.objs.size ≤ h'.objs.size := Nat.le_of_lt (Nat.lt_of_le_of_lt above below)
    refine go _ c' _ ctv _ _ J (.inr ⟨ps, c', rawInt pos.line, rawInt pos.col, hP, new, rfl, fun t => ?_, fun p' cv t hc => ?_⟩) (Heap.get?_push_size _ rfl) ?_ (low _ far) upd_same (.inr new)
    · rw [flat]
      exact PySem.TriplesOk_snoc _ _ _ _ t
    · rw [flat] at hc
      exact LamX.among_app _ t hc
    · rw [upd_ne (Nat.ne_of_gt below), upd_ne (Nat.ne_of_gt (Nat.lt_of_lt_of_le (Heap.lt_size tabAt) far))]
      exact I.hok.fresh far
end
/-! ### the def that gets the lambda -/
/-- what is known of such a def -/
structure LamFd (P : Program) (w : World) (K : PySem.W.Frag) (mg : Str → Option Value) (base : Heap) (x : Str) (k n : Nat) (mc : M D → MS) (g : Addr) (oc : Value) (od : Option Addr) (pg : Arguments) (bg : List Stmt) (sg : Scope) (dV kV doc pm : Value) (an : Option Addr) (cdv ct : Value) (osl : Array (Option Value)) (Ng : List Str) (a : Str) : Prop where
  lk : K.lookup g = some ⟨oc, od, .func (PySem.W.fnOf x x pg bg sg dV kV doc pm an cdv ct), osl⟩
  cd : PySem.W.codeIn K cdv x = true
  kp : PySem.W.keepIn K (.ref g) = true
  glo : mg x = some (.ref g)
  bi : L2.Binds K (PySem.W.fnOf x x pg bg sg dV kV doc pm an cdv ct) [a] []
  sc : FnScope Ng [a] sg
  len : Ng.length = n
  n0 : Ng[0]? = some a
  vis : Vis sg a
  d1 : (a == ("__debug__" : Str)) = false
  d2 : (a == ("__classdict__" : Str)) = false
  does : ∀ (A : Around) (outer : List PySem.Env) (s : Shared) (H : Hp) (E : XK) (mact : M D), BodyX (cxOf (L2.CX P w) P w K mg base Ng x sg g cdv A outer s H E) (fun cls d _ H => E cls d H) k →
    (∀ (W' : WX) (pn : List (Addr × Obj)) (xe : Value → Shared → Prop) (p1 p2 : Pos), Takes ((cxOf (L2.CX P w) P w K mg base Ng x sg g cdv A outer s H E).tr pn xe) W' → DE ((cxOf (L2.CX P w) P w K mg base Ng x sg g cdv A outer s H E).tr pn xe) W' (.Call (.Name a p1) [] [] p2) mact) →
    DSs (cxOf (L2.CX P w) P w K mg base Ng x sg g cdv A outer s H E) (fun cls d _ H => E cls d H) bg (mc mact)
def LamFn (P : Program) (w : World) (K : PySem.W.Frag) (mg : Str → Option Value) (base : Heap) (x : Str) (k n : Nat) (mc : M D → MS) : Prop :=
  ∃ g oc od pg bg sg dV kV doc pm an cdv ct osl Ng a, LamFd P w K mg base x k n mc g oc od pg bg sg dV kV doc pm an cdv ct osl Ng a
end Mi
-- MirOd
set_option Elab.async false
set_option linter.all false
set_option maxRecDepth 100000
set_option maxHeartbeats 4000000
namespace Mi
open PySem L2 PyProof.Rows PySem.Spec HT
end Mi
-- MirOe
set_option Elab.async false
set_option linter.all false
set_option maxRecDepth 100000
set_option maxHeartbeats 4000000
/-! repr of data that may hold empty dicts -/
namespace Mi
open PySem L2 PyProof.Rows PySem.Spec HT
/-! ### the hook -/
def asE (g : Addr → Option Obj) (n : Nat) : List Addr := sysModules :: asX g n
end Mi
-- MirLb
set_option Elab.async false
set_option linter.all false
set_option maxRecDepth 100000
set_option maxHeartbeats 4000000
namespace Mi
open PySem L2 PyProof.Rows PySem.Spec
/-! ### the text's Hook: names, defs, classes; empty tables are left out of K -/
def tabsE (g : Addr → Option Obj) (K : PySem.W.Frag) : Bool := (tabsOf K).all fun p => match g p.1 with
  | some o => He.emptyTab o
  | none => false
theorem tabsE_ok {h : Heap} {K : PySem.W.Frag} (e : tabsE h.get? K = true) : TabF K h := fun p hp => by
  have z := List.all_eq_true.mp e p hp
  split at z
  · rename_i o q
    rw [q, He.emptyTab_eq z]
  · cases z
def kL (g : Addr → Option Obj) (n : Nat) : PySem.W.Frag := He.frT g (asE g n)
def obsL (n : Nat) (fa : List He.Fa) (fn : List He.DefD) (ex : PySem.W.Frag → Bool) (g : Addr → Option Obj) : AlG := (He.obsD fa fn (kL g n), ex (kL g n) && tabsE g (kL g n))
structure SaysL (fa : List He.Fa) (fn : List He.DefD) (ex : PySem.W.Frag → Bool) (h : Heap) (K : PySem.W.Frag) : Prop where
  d : He.SaysD fa fn K
  e : ex K = true
  t : TabF K h
def hookL (n : Nat) (fa : List He.Fa) (fn : List He.DefD) (ex : PySem.W.Frag → Bool) : PySem.W.Hook where
  α := AlG
  obs := fun s => obsL n fa fn ex s.heap.get?
  val := fun _ => (He.valD fn, true)
  says := fun _ h => ∃ K : PySem.W.Frag, K.In h ∧ SaysL fa fn ex h K
  of := fun _ _ e => by
    have e2 := Bool.and_eq_true_iff.mp (congrArg (fun z : AlG => z.2) e)
    exact ⟨_, He.frT_in, congrArg (fun z : AlG => z.1) e, e2.1, tabsE_ok e2.2⟩
  keeps := fun _ _ _ ⟨K, hK, c⟩ k => ⟨K, PySem.W.Frag.In.keeps hK k, c.d, c.e, fun p hp => k _ _ (c.t p hp)⟩
theorem obsL_eq {n : Nat} {fa : List He.Fa} {fn : List He.DefD} {ex : PySem.W.Frag → Bool} {g : Addr → Option Obj} {s : Shared} (h : ∀ a, g a = s.heap.get? a) : obsL n fa fn ex g = (hookL n fa fn ex).obs s := by
  have e : g = s.heap.get? := funext h
  rw [e] <;> rfl
/-! ### a def that makes lambdas -/
def lamQ (x : Str) : Str := (x ++ ".<locals>.") ++ "<lambda>"
def codeA (K : PySem.W.Frag) (x : Str) : Addr := He.codeOf K (x, none)
def tabA (K : PySem.W.Frag) (x : Str) : Addr := He.tabOf K (codeA K x)
def lamB (K : PySem.W.Frag) (x : Str) : Bool := PySem.W.codeHdIn K (codeA K x) (tabA K x) && ((tabsOf K).any (fun r => decide (r.1 = tabA K x)) && (tabsOf K).all fun r => decide (r.1 ≠ tabA K x) || decide (r.2 = lamQ x))
structure LamM (K : PySem.W.Frag) (x : Str) : Prop where
  hd : PySem.W.codeHdIn K (codeA K x) (tabA K x) = true
  mem : (tabA K x, lamQ x) ∈ tabsOf K
  one : ∀ r ∈ tabsOf K, r.1 = tabA K x → r.2 = lamQ x
theorem lamB_ok {K : PySem.W.Frag} {x : Str} (h : lamB K x = true) : LamM K x := by
  obtain ⟨h1, h⟩ := Bool.and_eq_true_iff.mp h
  obtain ⟨h2, h3⟩ := Bool.and_eq_true_iff.mp h
  have one : ∀ r ∈ tabsOf K, r.1 = tabA K x → r.2 = lamQ x := fun r hr e => by
    have z := List.all_eq_true.mp h3 r hr
    rw [decide_eq_false (fun n => n e), Bool.false_or] at z
    exact of_decide_eq_true z
  refine ⟨h1, ?_, one⟩
  obtain ⟨r, hr, e⟩ := List.any_eq_true.mp h2
  have e := of_decide_eq_true e
  have e2 := one r hr e
  rw [← e, ← e2]
  exact hr
section
variable {P : Program} {w : World} {K : PySem.W.Frag} {mg : Str → Option Value} {base : Heap} {X : Cx} {W : WX}
theorem BodyX.dn {j k : Nat} (b : BodyX X W k) (h : j ≤ k) : BodyX X W j := ⟨b.room.mono h, b.tk, b.po, b.gd⟩
theorem LamFn.mono {x : Str} {j k n : Nat} {mc : M D → MS} (L : LamFn P w K mg base x j n mc) (h : j ≤ k) : LamFn P w K mg base x k n mc := by
  obtain ⟨g, oc, od, pg, bg, sg, dV, kV, doc, pm, an, cdv, ct, osl, Ng, a, L⟩ := L
  exact ⟨g, oc, od, pg, bg, sg, dV, kV, doc, pm, an, cdv, ct, osl, Ng, a, L.lk, L.cd, L.kp, L.glo, L.bi, L.sc, L.len, L.n0, L.vis, L.d1, L.d2, fun A outer s H E mact b act => L.does A outer s H E mact (b.dn h) act⟩
/-- a def that makes lambdas: its code object is known -/
theorem cal_ofL {x : Str} {st : Stmt} {fd : FuncData} {N ps : List Str} {k : Nat} {body : MS} (F : FunD K x x (defArgs st) (defBody st) (defScope st) [] [] (He.fAd K (x, none)) fd) (S : FnScope N ps (defScope st))
    (D : ∀ (cdv : Value) (A : Around) (outer : List PySem.Env) (s : Shared) (H : Hp) (E : XK), cdv = .ref (codeA K x) → BodyX (cxOf (L2.CX P w) P w K mg base N x (defScope st) (He.fAd K (x, none)) cdv A outer s H E) (fun cls d _ H => E cls d H) k →
      DSs (cxOf (L2.CX P w) P w K mg base N x (defScope st) (He.fAd K (x, none)) cdv A outer s H E) (fun cls d _ H => E cls d H) (defBody st) body) :
    FnG P w K mg base (L2.CX P w) (k + 1) (He.fAd K (x, none)) fd ps (spOf K mg ps.length (runB N.length body)) := by
  obtain ⟨oc, od, dV, kV, doc, pm, an, cdv, ct, osl, rfl, lk, hcd, _, _⟩ := F.ex
  have ec : cdv = .ref (codeA K x) := by
    obtain ⟨c, rfl⟩ := He.codeIn_ref hcd
    exact congrArg Value.ref (He.codeOf_eq lk rfl).symm
  refine fnG_of lk hcd S (fun vs H Q E h => ?_) (fun A outer s H vs Q E hr hgd h => ?_)
  · obtain ⟨_, _, _, _, _, h, _⟩ := h
    exact h
  · obtain ⟨φ, hp, ds, o, hp', hl, sr, r, hg, F⟩ := h
    obtain ⟨t, p, ok⟩ := D cdv A outer s H E ec ⟨hr, takes_of rfl rfl rfl rfl, passes_of rfl, hgd⟩
    refine ⟨t, p, ?_⟩
    have l := sls_start (N := N) r
    unfold runB at hg
    split at hg
    · rename_i env1 hp1 e
      cases hg
      exact ok (L2.start N vs) H φ _ hp _ _ _ sr l e _ fun σ' H' φ' y s' l' => F H' φ' y s' _ .non
    · rename_i d env1 hp1 e
      cases hg
      exact ok (L2.start N vs) H φ _ hp _ _ _ sr l e _ fun σ' H' φ' y s' l' => F H' φ' y s'
    · rename_i c d env1 hp1 e
      cases hg
      exact ok (L2.start N vs) H φ _ hp _ _ _ sr l e _ fun σ' H' φ' y s' l' => F H' φ' y s'
    · cases hg
end
end Mi
-- Hk17
set_option Elab.async false
set_option linter.all false
set_option maxRecDepth 100000
set_option maxHeartbeats 0
namespace Gw
open PySem PySem.Spec PyProof.Rows L2 Mi
/-! ### the text -/
def top (i : Nat) : Stmt := PySem.Challenge.pw_creditfloor_k17_whole_safe_forever.main.body.getD i (.Pass ⟨0, 0, 0, 0⟩)
abbrev s__law_hand : Stmt := top 18
abbrev N__law_hand : List Str := ["_law_script", "_law_k", "_law_cell", "_law_great"]
abbrev s__law_take : Stmt := top 19
abbrev N__law_take : List Str := ["_law_hand_here", "_law_many", "_law_digit", "_law_prime", "_law_drawn"]
abbrev s__law_mixed : Stmt := top 23
abbrev N__law_mixed : List Str := ["_law_hand_here", "_law_some", "_law_left", "_law_found"]
abbrev s__law_rows : Stmt := top 21
abbrev N__law_rows : List Str := ["_law_count", "_law_budget", "_law_found"]
abbrev s__law_of : Stmt := top 20
abbrev N__law_of : List Str := ["_law_hand_here", "_law_some"]
abbrev s__law_near : Stmt := top 24
abbrev N__law_near : List Str := ["_law_hand_here", "_law_count", "_law_budget", "_law_rows_here", "_law_found", "_law_turn", "_law_giver", "_law_taker", "_law_amount", "_law_at", "_law_k"]
abbrev s__law_gap : Stmt := top 22
abbrev N__law_gap : List Str := ["_law_balances", "_law_budget", "_law_total", "_law_at", "_law_balance", "_law_due"]
abbrev s__law_safe_ones : Stmt := top 25
abbrev N__law_safe_ones : List Str := ["_law_hand_here", "_law_count", "_law_budget", "_law_found", "_law_at"]
abbrev s__law_demand : Stmt := top 26
abbrev N__law_demand : List Str := ["_law_hand_here", "_law_count", "_law_budget", "_law_found", "_law_left", "_law_amount", "_law_at"]
abbrev s__law_levelling : Stmt := top 28
abbrev N__law_levelling : List Str := ["_law_balances", "_law_budget", "_law_size", "_law_order", "_law_left", "_law_found", "_law_turn", "_law_at", "_law_balance"]
abbrev s__law_wish : Stmt := top 29
abbrev N__law_wish : List Str := ["_law_hand_here", "_law_balances", "_law_budget", "_law_turn", "_law_count", "_law_way"]
abbrev s_stalled : Stmt := top 6
abbrev N_stalled : List Str := ["balances", "demand", "at", "balance"]
abbrev s_less_demand : Stmt := top 7
abbrev N_less_demand : List Str := ["balances", "demand", "senders", "balance", "amount"]
abbrev s_changed : Stmt := top 8
abbrev N_changed : List Str := ["balances", "sender", "amount"]
abbrev s_best_grant : Stmt := top 14
abbrev N_best_grant : List Str := ["balances"]
abbrev s_served : Stmt := top 16
abbrev N_served : List Str := ["balances", "budget", "demands", "grants", "here", "demand", "left"]
abbrev s_sums : Stmt := top 10
abbrev N_sums : List Str := ["balances", "found", "total", "balance"]
abbrev s_thresholds : Stmt := top 1
abbrev N_thresholds : List Str := ["count", "budget", "found", "size", "last"]
abbrev s_gap : Stmt := top 11
abbrev N_gap : List Str := ["balances", "budget", "at", "total", "due"]
abbrev s_is_safe : Stmt := top 12
abbrev N_is_safe : List Str := ["balances", "budget"]
abbrev s_good_grants : Stmt := top 15
abbrev N_good_grants : List Str := ["balances", "budget", "at"]
abbrev s__law_after : Stmt := top 27
abbrev N__law_after : List Str := ["_law_balances", "_law_demand_here", "_law_sender", "_law_budget", "_law_rest", "_law_balance", "_law_amount"]
abbrev s_law : Stmt := top 30
abbrev N_law : List Str := ["_law_script", "_law_k", "_law_hand_here", "_law_count", "_law_budget", "_law_balances", "_law_turn", "_law_demand_here", "_law_granted", "_law_later", "_law_left", "_law_balance", "_law_amount"]
def d__law_hand : He.DefD := ⟨("_law_hand", none), "_law_hand", "_law_hand", defArgs s__law_hand, defBody s__law_hand, defScope s__law_hand, [], []⟩
def d__law_take : He.DefD := ⟨("_law_take", none), "_law_take", "_law_take", defArgs s__law_take, defBody s__law_take, defScope s__law_take, [], []⟩
def d__law_mixed : He.DefD := ⟨("_law_mixed", none), "_law_mixed", "_law_mixed", defArgs s__law_mixed, defBody s__law_mixed, defScope s__law_mixed, [], []⟩
def d__law_rows : He.DefD := ⟨("_law_rows", none), "_law_rows", "_law_rows", defArgs s__law_rows, defBody s__law_rows, defScope s__law_rows, [], []⟩
def d__law_of : He.DefD := ⟨("_law_of", none), "_law_of", "_law_of", defArgs s__law_of, defBody s__law_of, defScope s__law_of, [], []⟩
def d__law_near : He.DefD := ⟨("_law_near", none), "_law_near", "_law_near", defArgs s__law_near, defBody s__law_near, defScope s__law_near, [], []⟩
def d__law_gap : He.DefD := ⟨("_law_gap", none), "_law_gap", "_law_gap", defArgs s__law_gap, defBody s__law_gap, defScope s__law_gap, [], []⟩
def d__law_safe_ones : He.DefD := ⟨("_law_safe_ones", none), "_law_safe_ones", "_law_safe_ones", defArgs s__law_safe_ones, defBody s__law_safe_ones, defScope s__law_safe_ones, [], []⟩
def d__law_demand : He.DefD := ⟨("_law_demand", none), "_law_demand", "_law_demand", defArgs s__law_demand, defBody s__law_demand, defScope s__law_demand, [], []⟩
def d__law_levelling : He.DefD := ⟨("_law_levelling", none), "_law_levelling", "_law_levelling", defArgs s__law_levelling, defBody s__law_levelling, defScope s__law_levelling, [], []⟩
def d__law_wish : He.DefD := ⟨("_law_wish", none), "_law_wish", "_law_wish", defArgs s__law_wish, defBody s__law_wish, defScope s__law_wish, [], []⟩
def d_stalled : He.DefD := ⟨("stalled", none), "stalled", "stalled", defArgs s_stalled, defBody s_stalled, defScope s_stalled, [], []⟩
def d_less_demand : He.DefD := ⟨("less_demand", none), "less_demand", "less_demand", defArgs s_less_demand, defBody s_less_demand, defScope s_less_demand, [], []⟩
def d_changed : He.DefD := ⟨("changed", none), "changed", "changed", defArgs s_changed, defBody s_changed, defScope s_changed, [], []⟩
def d_best_grant : He.DefD := ⟨("best_grant", none), "best_grant", "best_grant", defArgs s_best_grant, defBody s_best_grant, defScope s_best_grant, [], []⟩
def d_served : He.DefD := ⟨("served", none), "served", "served", defArgs s_served, defBody s_served, defScope s_served, [], []⟩
def d_sums : He.DefD := ⟨("sums", none), "sums", "sums", defArgs s_sums, defBody s_sums, defScope s_sums, [], []⟩
def d_thresholds : He.DefD := ⟨("thresholds", none), "thresholds", "thresholds", defArgs s_thresholds, defBody s_thresholds, defScope s_thresholds, [], []⟩
def d_gap : He.DefD := ⟨("gap", none), "gap", "gap", defArgs s_gap, defBody s_gap, defScope s_gap, [], []⟩
def d_is_safe : He.DefD := ⟨("is_safe", none), "is_safe", "is_safe", defArgs s_is_safe, defBody s_is_safe, defScope s_is_safe, [], []⟩
def d_good_grants : He.DefD := ⟨("good_grants", none), "good_grants", "good_grants", defArgs s_good_grants, defBody s_good_grants, defScope s_good_grants, [], []⟩
def d__law_after : He.DefD := ⟨("_law_after", none), "_law_after", "_law_after", defArgs s__law_after, defBody s__law_after, defScope s__law_after, [], []⟩
def d_law : He.DefD := ⟨("law", none), "law", "law", defArgs s_law, defBody s_law, defScope s_law, [], []⟩
abbrev si_Stall : Stmt := inClass (top 4) 0
def di_Stall : He.DefD := ⟨("Stall", some "__init__"), "__init__", "Stall.__init__", defArgs si_Stall, defBody si_Stall, defScope si_Stall, [], []⟩
def fn : List He.DefD := [d__law_hand, d__law_take, d__law_mixed, d__law_rows, d__law_of, d__law_near, d__law_gap, d__law_safe_ones, d__law_demand, d__law_levelling, d__law_wish, d_stalled, d_less_demand, d_changed, d_best_grant, d_served, d_sums, d_thresholds, d_gap, d_is_safe, d_good_grants, d__law_after, d_law, di_Stall]
def fa : List He.Fa := [.glo "_law_hand", .glo "_law_take", .glo "_law_mixed", .glo "_law_rows", .glo "_law_of", .glo "_law_near", .glo "_law_gap", .glo "_law_safe_ones", .glo "_law_demand", .glo "_law_levelling", .glo "_law_wish", .glo "stalled", .glo "less_demand", .glo "changed", .glo "best_grant", .glo "served", .glo "sums", .glo "thresholds", .glo "gap", .glo "is_safe", .glo "good_grants", .glo "_law_after", .glo "law", .free "abs", .free "int", .free "len", .free "list", .free "tuple", .free "range", .free "max", .free "sorted", .free "enumerate", .free "zip", .free "min", .free "dict"]
abbrev R : PySem.W.OpenRow := PySem.W.OpenLaw.row PySem.Challenge.rw_creditfloor_k17_whole_safe_forever
abbrev hk : PySem.W.Hook := hookL 4 fa fn (fun K => (exB (["Stall"] : List Str) K && lamB K "_law_levelling"))
def ob (s : PySem.W.SharedT) : AlG := obsL 4 fa fn (fun K => (exB (["Stall"] : List Str) K && lamB K "_law_levelling")) (HandSHeadRun.getT s)
theorem ob_eq (s : PySem.W.SharedT) : ob s = hk.obs s.abs := obsL_eq (HandSHeadRun.getT_eq s)
def loose : List Str := (["thresholds", "CreditError", "Stall", "stalled", "less_demand", "changed", "sums", "gap", "is_safe", "best_grant", "good_grants", "served", "_law_hand", "_law_take", "_law_of", "_law_rows", "_law_gap", "_law_mixed", "_law_near", "_law_safe_ones"] : List Str) ++ (["_law_demand", "_law_after", "_law_levelling", "_law_wish"] : List Str)
theorem run (w : World) : HandSHeadRun.RunEq R (PySem.W.view R.prog [30]) hk ob 2460 loose w := by
  intro os
  kernel_rfl
end Gw
-- Ev
set_option Elab.async false
set_option linter.all false
set_option maxRecDepth 100000
set_option maxHeartbeats 2000000
namespace Mi
open PySem L2 PyProof.Rows PySem.Spec
section
variable {α β : Type} {env env' : Env} {hp hp' h h1 h2 : Hs} {Q : α → Hs → Prop} {a b c : M D} {d x y : D} {xs ds : List D} {i j : Int} {n k : Nat}
/-- the term comes to a value, and then Q -/
def Wp (m : M α) (env : Env) (hp : Hs) (Q : α → Hs → Prop) : Prop := ∃ a hp1, m env hp = some (.ok a, hp1) ∧ Q a hp1
def Gt {α : Type} (o : Option α) (Q : α → Prop) : Prop := ∃ d, o = some d ∧ Q d
theorem Wp.bnd {m : M α} {f : α → M β} {Q : β → Hs → Prop} (q : Wp m env hp fun x h => Wp (f x) env h Q) : Wp (bnd m f) env hp Q := by
  obtain ⟨x, h, e, y, h2, e2, q⟩ := q
  exact ⟨y, h2, by unfold Mi.bnd; rw [e]; exact e2, q⟩
theorem Wp.lft {f : Hs → Option α} (q : Gt (f hp) fun d => Q d hp) : Wp (lft f) env hp Q := by
  obtain ⟨d, e, q⟩ := q
  exact ⟨d, hp, by unfold Mi.lft; rw [e], q⟩
theorem Wp.mono {m : M α} {Q' : α → Hs → Prop} (q : Wp m env hp Q) (f : ∀ a h, Q a h → Q' a h) : Wp m env hp Q' := by
  obtain ⟨a, h, e, q⟩ := q; exact ⟨a, h, e, f a h q⟩
/-- a slot -/
def Gs (o : Option (Option D)) (Q : D → Prop) : Prop := ∃ d, o = some (some d) ∧ Q d
theorem gs_rfl {Q : D → Prop} (q : Q d) : Gs (some (some d)) Q := ⟨d, rfl, q⟩
theorem wp_var {Q : D → Hs → Prop} {i : Nat} (q : Gs env[i]? fun d => Q d hp) : Wp (mVar i) env hp Q := by
  obtain ⟨d, e, q⟩ := q
  exact ⟨d, hp, by unfold mVar; rw [e], q⟩
theorem wp_c {d : α} (q : Q d hp) : Wp (mC d) env hp Q := ⟨d, hp, rfl, q⟩
theorem wp_op {g : Hs → D → D → Option D} {Q : D → Hs → Prop} (q : Wp a env hp fun x h1 => Wp b env h1 fun y h2 => Gt (g h2 x y) fun d => Q d h2) : Wp (mOp g a b) env hp Q :=
  Wp.bnd (q.mono fun _ _ q => Wp.bnd (q.mono fun _ _ q => Wp.lft q))
theorem wp_un {g : Hs → D → Option D} {Q : D → Hs → Prop} (q : Wp a env hp fun x h1 => Gt (g h1 x) fun d => Q d h1) : Wp (mUn g a) env hp Q := Wp.bnd (q.mono fun _ _ q => Wp.lft q)
theorem wp_nil {Q : List D → Hs → Prop} (q : Q [] hp) : Wp mNil env hp Q := ⟨_, hp, rfl, q⟩
theorem wp_cons {r : M (List D)} {Q : List D → Hs → Prop} (q : Wp a env hp fun x h1 => Wp r env h1 fun xs h2 => Q (x :: xs) h2) : Wp (mCons a r) env hp Q :=
  Wp.bnd (q.mono fun _ _ q => Wp.bnd (q.mono fun _ _ q => wp_c q))
theorem wp_tup {r : M (List D)} {Q : D → Hs → Prop} (q : Wp r env hp fun xs h => xs.length ≤ sizeLine ∧ Q (.tup xs) h) : Wp (mTup r) env hp Q :=
  Wp.bnd (q.mono fun _ _ q => Wp.lft ⟨_, if_pos q.1, q.2⟩)
theorem wp_lst {r : M (List D)} {Q : List D → Hs → Prop} (q : Wp r env hp fun xs h => xs.length ≤ sizeLine ∧ Q xs h) : Wp (mLst r) env hp Q :=
  Wp.bnd (q.mono fun _ _ q => Wp.lft ⟨_, if_pos q.1, q.2⟩)
theorem wp_new {r : M (List D)} {Q : D → Hs → Prop} (q : Wp r env hp fun xs h => Q (.lst xs) h) : Wp (mNew r) env hp Q := Wp.bnd (q.mono fun _ _ q => wp_c q)
theorem wp_box {r : M (List D)} {Q : D → Hs → Prop} (q : Wp r env hp fun xs h => Q (.loc h.length) (h ++ [some (.lst xs)])) : Wp (mBox r) env hp Q := by
  obtain ⟨xs, h, e, q⟩ := q
  exact ⟨_, _, by unfold mBox; rw [e], q⟩
theorem wp_if {cm : M Bool} {a b : M α} (q : Wp cm env hp fun k h => (k = true → Wp a env h Q) ∧ (k = false → Wp b env h Q)) : Wp (mIf cm a b) env hp Q :=
  Wp.bnd (q.mono fun k _ q => by cases k; exact q.2 rfl; exact q.1 rfl)
theorem wp_tst {Q : Bool → Hs → Prop} (q : Wp a env hp fun x h => Gt (match x with | .bl b => some b | _ => none) fun b => Q b h) : Wp (mTst a) env hp Q :=
  Wp.bnd (q.mono fun x _ q => by obtain ⟨d, e, q⟩ := q; cases x <;> cases e; exact wp_c q)
theorem wp_and {c1 c2 : M Bool} {Q : Bool → Hs → Prop} (q : Wp c1 env hp fun k h => (k = true → Wp c2 env h Q) ∧ (k = false → Q false h)) : Wp (mAnd c1 c2) env hp Q :=
  Wp.bnd (q.mono fun k _ q => by cases k; exact wp_c (q.2 rfl); exact q.1 rfl)
theorem wp_or {c1 c2 : M Bool} {Q : Bool → Hs → Prop} (q : Wp c1 env hp fun k h => (k = false → Wp c2 env h Q) ∧ (k = true → Q true h)) : Wp (mOr c1 c2) env hp Q :=
  Wp.bnd (q.mono fun k _ q => by cases k; exact q.1 rfl; exact wp_c (q.2 rfl))
theorem wp_not {c1 : M Bool} {Q : Bool → Hs → Prop} (q : Wp c1 env hp fun k h => Q (!k) h) : Wp (mNot c1) env hp Q := Wp.bnd (q.mono fun _ _ q => wp_c q)
theorem wp_andV {Q : D → Hs → Prop} (q : Wp a env hp fun x h => ∃ k, x = .bl k ∧ (k = true → Wp b env h Q) ∧ (k = false → Q (.bl false) h)) : Wp (mAndV a b) env hp Q :=
  Wp.bnd (q.mono fun x _ q => by
    obtain ⟨k, rfl, q1, q2⟩ := q
    cases k
    · exact wp_c (q2 rfl)
    · exact q1 rfl)
theorem wp_orV {Q : D → Hs → Prop} (q : Wp a env hp fun x h => ∃ k, x = .bl k ∧ (k = false → Wp b env h Q) ∧ (k = true → Q (.bl true) h)) : Wp (mOrV a b) env hp Q :=
  Wp.bnd (q.mono fun x _ q => by
    obtain ⟨k, rfl, q1, q2⟩ := q
    cases k
    · exact q1 rfl
    · exact wp_c (q2 rfl))
theorem wp_notV {Q : D → Hs → Prop} (q : Wp a env hp fun x h => ∃ k, x = .bl k ∧ Q (.bl (!k)) h) : Wp (mNotV a) env hp Q :=
  Wp.bnd (q.mono fun x _ q => by obtain ⟨k, rfl, q1⟩ := q; exact wp_c q1)
theorem wp_cb {g : Hs → List D → Option D} {r : M (List D)} {Q : D → Hs → Prop} (q : Wp r env hp fun xs h => Gt (g h xs) fun d => Q d h) : Wp (mCB g r) env hp Q := Wp.bnd (q.mono fun _ _ q => Wp.lft q)
theorem wp_cbn {g : Hs → List D → Option (List D)} {r : M (List D)} {Q : List D → Hs → Prop} (q : Wp r env hp fun xs h => Gt (g h xs) fun d => Q d h) : Wp (mCBN g r) env hp Q := Wp.bnd (q.mono fun _ _ q => Wp.lft q)
theorem wp_part {Q : Option Int → Hs → Prop} (q : Wp a env hp fun x h => ∃ i, x = .int i ∧ Q (some i) h) : Wp (mPart a) env hp Q :=
  Wp.bnd (q.mono fun x _ q => by obtain ⟨k, rfl, q1⟩ := q; exact wp_c q1)
theorem wp_sl {g : Hs → D → Option Int → Option Int → Option D} {l u : M (Option Int)} {Q : D → Hs → Prop} (q : Wp a env hp fun x h1 => Wp l env h1 fun lo h2 => Wp u env h2 fun hi h3 => Gt (g h3 x lo hi) fun d => Q d h3) : Wp (mSl g a l u) env hp Q :=
  Wp.bnd (q.mono fun _ _ q => Wp.bnd (q.mono fun _ _ q => Wp.bnd (q.mono fun _ _ q => Wp.lft q)))
/-- a def comes to a value -/
def Fs (g : Fn) (ds : List D) (hp : Hs) (Q : D → Hs → Prop) : Prop := ∃ d hp1, g ds hp = some (.ok d, hp1) ∧ Q d hp1
theorem Fs.mono {g : Fn} {Q Q' : D → Hs → Prop} (q : Fs g ds hp Q) (f : ∀ a h, Q a h → Q' a h) : Fs g ds hp Q' := by
  obtain ⟨a, h, e, q⟩ := q; exact ⟨a, h, e, f a h q⟩
theorem wp_call {n : Nat} {g : Fn} {r : M (List D)} {Q : D → Hs → Prop} (q : Wp r env hp fun xs h => xs.length = n ∧ Fs g xs h Q) : Wp (mCall n g r) env hp Q :=
  Wp.bnd (q.mono fun xs h q => by
    obtain ⟨hl, d, h1, e, q⟩ := q
    exact ⟨d, h1, (if_pos hl).trans e, q⟩)
theorem wp_mt {g : Hs → List D → List D → Option (D × List D)} {r : M (List D)} {Q : D → Hs → Prop} (q : Wp a env hp fun x h1 => ∃ n ys, x = .loc n ∧ h1[n]? = some (some (.lst ys)) ∧ Wp r env h1 fun ds h2 => ∃ xs, h2[n]? = some (some (.lst xs)) ∧
    Gt (g h2 xs ds) fun z => Q z.1 (h2.set n (some (.lst z.2)))) : Wp (mMt g a r) env hp Q :=
  Wp.bnd (q.mono fun x h1 q => by
    obtain ⟨n, ys, rfl, h, q⟩ := q
    refine Wp.bnd (Wp.lft ⟨_, boxL_loc h, Wp.bnd (q.mono fun ds h2 q => ?_)⟩)
    obtain ⟨xs, h, ⟨d, zs⟩, e, q⟩ := q
    exact ⟨d, _, by dsimp only; rw [boxL_loc h]; dsimp only; rw [e], q⟩)
theorem wp_idx {r : M (List D)} {Q : D → Hs → Prop} (q : Wp a env hp fun x h1 => Gt (seqv h1 x) fun _ => Wp r env h1 fun ds h2 => Gt (gIdx h2 x ds) fun d => Q d h2) : Wp (mIdx a r) env hp Q :=
  Wp.bnd (q.mono fun _ _ q => Wp.bnd (Wp.lft (by obtain ⟨d, e, q⟩ := q; exact ⟨d, e, Wp.bnd (q.mono fun _ _ q => Wp.lft q)⟩)))
/-! ### statements: what follows by the way they end -/
structure Po where
  nx : Env → Hs → Prop
  rt : D → Hs → Prop := fun _ _ => False
  bk : Env → Hs → Prop := fun _ _ => False
  ct : Env → Hs → Prop := fun _ _ => False
def Po.at (P : Po) : Fl → Env → Hs → Prop
  | .nx => P.nx | .rt d => fun _ h => P.rt d h | .bk => P.bk | .ct => P.ct | .ex _ _ => fun _ _ => False
def Ws (s : MS) (env : Env) (hp : Hs) (P : Po) : Prop := ∃ fl env' hp', s env hp = some (fl, env', hp') ∧ P.at fl env' hp'
variable {P P' : Po} {s t : MS}
theorem Ws.mono (q : Ws s env hp P) (h1 : ∀ e h, P.nx e h → P'.nx e h) (h2 : ∀ d h, P.rt d h → P'.rt d h) (h3 : ∀ e h, P.bk e h → P'.bk e h) (h4 : ∀ e h, P.ct e h → P'.ct e h) : Ws s env hp P' := by
  obtain ⟨fl, e, h, q, z⟩ := q
  refine ⟨fl, e, h, q, ?_⟩
  cases fl with
  | nx => exact h1 _ _ z
  | rt d => exact h2 _ _ z
  | bk => exact h3 _ _ z
  | ct => exact h4 _ _ z
  | ex c d => exact z.elim
theorem ws_nil (q : P.nx env hp) : Ws sNil env hp P := ⟨.nx, env, hp, rfl, q⟩
theorem ws_seq (q : Ws s env hp { P with nx := fun e h => Ws t e h P }) : Ws (sSeq s t) env hp P := by
  obtain ⟨fl, e, h, z, q⟩ := q
  cases fl with
  | nx =>
    obtain ⟨fl, e2, h2, z2, q⟩ := q
    exact ⟨fl, e2, h2, by unfold sSeq; rw [z]; exact z2, q⟩
  | rt d => exact ⟨.rt d, e, h, by unfold sSeq; rw [z], q⟩
  | bk => exact ⟨.bk, e, h, by unfold sSeq; rw [z], q⟩
  | ct => exact ⟨.ct, e, h, by unfold sSeq; rw [z], q⟩
  | ex c d => exact q.elim
/-- .. with what holds between them -/
theorem ws_seqM (R : Env → Hs → Prop) (q : Ws s env hp { P with nx := R }) (k : ∀ e h, R e h → Ws t e h P) : Ws (sSeq s t) env hp P :=
  ws_seq (q.mono k (fun _ _ z => z) (fun _ _ z => z) fun _ _ z => z)
theorem ws_E {α : Type} {m : M α} {f : α → MS} (q : Wp m env hp fun x h => Ws (f x) env h P) : Ws (sE m f) env hp P := by
  obtain ⟨x, h, e, fl, e2, h2, z, q⟩ := q
  exact ⟨fl, e2, h2, by unfold sE; rw [e]; exact z, q⟩
theorem ws_set {i : Nat} (q : Wp a env hp fun d h => P.nx (env.set i (some d)) h) : Ws (sSet i a) env hp P := ws_E (q.mono fun d h q => ⟨.nx, _, _, rfl, q⟩)
theorem ws_drop (q : Wp a env hp fun _ h => P.nx env h) : Ws (sDrop a) env hp P := ws_E (q.mono fun _ _ q => ws_nil q)
theorem ws_ret (q : Wp a env hp fun d h => P.rt d h) : Ws (sRet a) env hp P := ws_E (q.mono fun d h q => ⟨.rt d, _, _, rfl, q⟩)
theorem ws_if {cm : M Bool} (q : Wp cm env hp fun k h => (k = true → Ws s env h P) ∧ (k = false → Ws t env h P)) : Ws (sIf cm s t) env hp P :=
  ws_E (q.mono fun k _ q => by cases k; exact q.2 rfl; exact q.1 rfl)
theorem ws_brk (q : P.bk env hp) : Ws sBrk env hp P := ⟨.bk, _, _, rfl, q⟩
theorem ws_cont (q : P.ct env hp) : Ws sCont env hp P := ⟨.ct, _, _, rfl, q⟩
theorem ws_par {i j : Nat} {r : M (List D)} (q : Wp r env hp fun ds h => ∃ x y, ds = [x, y] ∧ P.nx ((env.set i (some x)).set j (some y)) h) : Ws (sPar i j r) env hp P :=
  ws_E (q.mono fun ds h q => by obtain ⟨x, y, rfl, q⟩ := q; exact ⟨.nx, _, _, rfl, q⟩)
/-- targets -/
def Tg (g : MG) (d : D) (env : Env) (hp : Hs) (Q : Env → Hs → Prop) : Prop := ∃ e h, g d env hp = some (e, h) ∧ Q e h
theorem ws_asg {g : MG} (q : Wp a env hp fun d h => Tg g d env h P.nx) : Ws (sAsg a g) env hp P :=
  ws_E (q.mono fun d h q => by obtain ⟨e, h1, z, q⟩ := q; exact ⟨.nx, e, h1, by dsimp only; rw [z], q⟩)
theorem tg_n {i : Nat} {Q : Env → Hs → Prop} (q : Q (env.set i (some d)) hp) : Tg (gN i) d env hp Q := ⟨_, _, rfl, q⟩
theorem tg_st {Q : Env → Hs → Prop} (q : Wp a env hp fun x h1 => Wp b env h1 fun y h2 => ∃ n k xs j, x = .loc n ∧ y = .int k ∧ h2[n]? = some (some (.lst xs)) ∧ ixN xs.length k = some j ∧ Q env (h2.set n (some (.lst (xs.set j d))))) : Tg (gSt a b) d env hp Q := by
  obtain ⟨x, h1, e1, y, h2, e2, n, k, xs, j, rfl, rfl, hx, hj, q⟩ := q
  exact ⟨_, _, by unfold gSt; rw [e1]; dsimp only; rw [e2]; dsimp only; rw [boxL_loc hx]; dsimp only; rw [hj], q⟩
/-- several targets: the data one by one -/
def Tgs (g : MGs) (ds : List D) (env : Env) (hp : Hs) (Q : Env → Hs → Prop) : Prop := ∃ e h, g ds env hp = some (e, h) ∧ Q e h
theorem tgs_nil {Q : Env → Hs → Prop} (q : Q env hp) : Tgs gsNil [] env hp Q := ⟨_, _, rfl, q⟩
theorem tgs_cons {g : MG} {gs : MGs} {Q : Env → Hs → Prop} (q : Tg g d env hp fun e h => Tgs gs ds e h Q) : Tgs (gsCons g gs) (d :: ds) env hp Q := by
  obtain ⟨e, h, z, e2, h2, z2, q⟩ := q
  exact ⟨e2, h2, by unfold gsCons; dsimp only; rw [z]; exact z2, q⟩
theorem tg_t {n : Nat} {gs : MGs} {Q : Env → Hs → Prop} (hx : look hp d = .tup xs) (hl : xs.length = n) (q : Tgs gs xs env hp Q) : Tg (gT n gs) d env hp Q := by
  obtain ⟨e, h, z, q⟩ := q
  exact ⟨e, h, by unfold gT; rw [hx]; dsimp only; rw [if_pos hl]; exact z, q⟩
theorem tg_ti {n : Nat} {gs : MGs} {Q : Env → Hs → Prop} (hx : look hp d = .itm xs) (hl : xs.length = n) (q : Tgs gs xs env hp Q) : Tg (gT n gs) d env hp Q := by
  obtain ⟨e, h, z, q⟩ := q
  exact ⟨e, h, by unfold gT; rw [hx]; dsimp only; rw [if_pos hl]; exact z, q⟩
/-- loops: an invariant, by the number of items that are done -/
theorem for_inv {g : MG} {body : MS} {keep : Hs → Prop} {items : List D} (I : Nat → Env → Hs → Prop)
    (hk : ∀ i e h, I i e h → i ≤ items.length → keep h)
    (step : ∀ i x e h, items[i]? = some x → I i e h → Tg g x e h fun e1 h1 => Ws body e1 h1 ⟨I (i + 1), P.rt, fun e2 h2 => P.nx e2 h2, I (i + 1)⟩)
    (fin : ∀ e h, I items.length e h → P.nx e h) : ∀ (n k : Nat) (env : Env) (hp : Hs), k + n = items.length → I k env hp → Ws (forL g body keep (items.drop k)) env hp P := by
  intro n
  induction n with
  | zero =>
    intro k env hp hn hI
    have : items.drop k = [] := List.drop_eq_nil_of_le (by omega)
    rw [this]
    have e : k = items.length := by omega
    subst e
    exact ⟨.nx, env, hp, by unfold forL; rw [if_pos (hk _ _ _ hI (Nat.le_refl _))], fin _ _ hI⟩
  | succ n ih =>
    intro k env hp hn hI
    have hlt : k < items.length := by omega
    rw [List.drop_eq_getElem_cons hlt]
    obtain ⟨e1, h1, z1, fl, e2, h2, z2, q⟩ := step k items[k] env hp (List.getElem?_eq_getElem hlt) hI
    have kp := hk k env hp hI (by omega)
    cases fl with
    | nx =>
      obtain ⟨fl, e3, h3, z3, q⟩ := ih (k + 1) e2 h2 (by omega) q
      exact ⟨fl, e3, h3, by unfold forL; rw [if_pos kp, z1]; dsimp only; rw [z2]; exact z3, q⟩
    | rt d => exact ⟨.rt d, e2, h2, by unfold forL; rw [if_pos kp, z1]; dsimp only; rw [z2], q⟩
    | bk => exact ⟨.nx, e2, h2, by unfold forL; rw [if_pos kp, z1]; dsimp only; rw [z2], q⟩
    | ct =>
      obtain ⟨fl, e3, h3, z3, q⟩ := ih (k + 1) e2 h2 (by omega) q
      exact ⟨fl, e3, h3, by unfold forL; rw [if_pos kp, z1]; dsimp only; rw [z2]; exact z3, q⟩
    | ex c d => exact q.elim
/-- the items that a loop or a comprehension walks -/
theorem ws_for {w : M Src} {g : MG} {body : MS} (q : Wp w env hp fun src h => ∃ I : Nat → Env → Hs → Prop, I 0 env h ∧ (∀ i e h, I i e h → i ≤ src.items.length → src.keep h) ∧
    (∀ i x e h, src.items[i]? = some x → I i e h → Tg g x e h fun e1 h1 => Ws body e1 h1 ⟨I (i + 1), P.rt, fun e2 h2 => P.nx e2 h2, I (i + 1)⟩) ∧ ∀ e h, I src.items.length e h → P.nx e h) : Ws (sFor w g body) env hp P :=
  ws_E (q.mono fun src h q => by
    obtain ⟨I, h0, hk, st, fin⟩ := q
    have := for_inv I hk st fin src.items.length 0 env h (by omega) h0
    rwa [List.drop_zero] at this)
theorem wp_range1 {r : M (List D)} {Q : Src → Hs → Prop} (q : Wp r env hp fun ds h => ∃ j, ds = [.int j] ∧ inI62 j ∧ Q ⟨rngD 0 j.toNat, fun _ => True⟩ h) : Wp (mRange1 r) env hp Q :=
  Wp.bnd (q.mono fun ds h q => by obtain ⟨j, rfl, hj, q⟩ := q; exact ⟨_, _, if_pos hj, q⟩)
theorem wp_range2 {r : M (List D)} {Q : Src → Hs → Prop} (q : Wp r env hp fun ds h => ∃ i j, ds = [.int i, .int j] ∧ inI62 i ∧ inI62 j ∧ Q ⟨rngD i (j - i).toNat, fun _ => True⟩ h) : Wp (mRange2 r) env hp Q :=
  Wp.bnd (q.mono fun ds h q => by obtain ⟨i, j, rfl, hi, hj, q⟩ := q; exact ⟨_, _, if_pos ⟨hi, hj⟩, q⟩)
theorem wp_iter {Q : Src → Hs → Prop} (q : Wp a env hp fun d h => ∃ xs, seqv h d = some xs ∧ Q ⟨xs, keepOf h d⟩ h) : Wp (mIter a) env hp Q :=
  Wp.bnd (q.mono fun d h q => by
    obtain ⟨xs, e, q⟩ := q
    refine ⟨_, _, ?_, q⟩
    dsimp only
    have e' := e
    unfold seqv at e'
    split at e' <;> first | (cases e'; done) | skip
    all_goals (rename_i hl; rw [hl]; dsimp only; rw [e]))
/-- while, by a measure -/
theorem while_inv {cm : M Bool} {body : MS} (I : Nat → Env → Hs → Prop)
    (step : ∀ k e h, I k e h → Wp cm e h fun c h1 => (c = true → ∃ k', k = k' + 1 ∧ Ws body e h1 ⟨I k', P.rt, P.nx, I k'⟩) ∧ (c = false → P.nx e h1)) : ∀ (n k : Nat) (env : Env) (hp : Hs), k < n → I k env hp → Ws (whileL cm body n) env hp P := by
  intro n
  induction n with
  | zero => intro k env hp h; omega
  | succ n ih =>
    intro k env hp hn hI
    unfold whileL
    refine ws_E ((step k env hp hI).mono fun c h q => ?_)
    cases c with
    | false => rw [if_neg Bool.false_ne_true]; exact ws_nil (q.2 rfl)
    | true =>
      rw [if_pos rfl]
      obtain ⟨k', rfl, fl, e2, h2, z, q⟩ := q.1 rfl
      cases fl with
      | nx =>
        obtain ⟨fl, e3, h3, z3, q⟩ := ih k' e2 h2 (by omega) q
        exact ⟨fl, e3, h3, by dsimp only; rw [z]; exact z3, q⟩
      | rt d => exact ⟨.rt d, e2, h2, by dsimp only; rw [z], q⟩
      | bk => exact ⟨.nx, e2, h2, by dsimp only; rw [z], q⟩
      | ct =>
        obtain ⟨fl, e3, h3, z3, q⟩ := ih k' e2 h2 (by omega) q
        exact ⟨fl, e3, h3, by dsimp only; rw [z]; exact z3, q⟩
      | ex c d => exact q.elim
/-- a comprehension -/
theorem comp_inv {g : MG} {t : M Bool} {m : M D} {keep : Hs → Prop} {vs : List Nat} {items : List D} {Q : List D → Hs → Prop} (I : Nat → List D → Hs → Prop)
    (hk : ∀ i acc h, I i acc h → i ≤ items.length → keep h)
    (step : ∀ i x acc h, items[i]? = some x → I i acc h → Tg g x (wipeE env vs) h fun e1 h1 => Wp t e1 h1 fun c h2 => (c = true → Wp m e1 h2 fun d h3 => acc.length < sizeLine ∧ I (i + 1) (acc ++ [d]) h3) ∧ (c = false → I (i + 1) acc h2))
    (fin : ∀ acc h, I items.length acc h → Q acc h) : ∀ (n k : Nat) (acc : List D) (hp : Hs), k + n = items.length → I k acc hp → ∃ ds h, compL g t m keep vs (items.drop k) acc env hp = some (ds, h) ∧ Q ds h := by
  intro n
  induction n with
  | zero =>
    intro k acc hp hn hI
    have : items.drop k = [] := List.drop_eq_nil_of_le (by omega)
    rw [this]
    have e : k = items.length := by omega
    subst e
    exact ⟨acc, hp, by unfold compL; rw [if_pos (hk _ _ _ hI (Nat.le_refl _))], fin _ _ hI⟩
  | succ n ih =>
    intro k acc hp hn hI
    have hlt : k < items.length := by omega
    rw [List.drop_eq_getElem_cons hlt]
    obtain ⟨e1, h1, z1, c, h2, z2, q⟩ := step k items[k] acc hp (List.getElem?_eq_getElem hlt) hI
    have kp := hk k acc hp hI (by omega)
    cases c with
    | true =>
      obtain ⟨d, h3, z3, hl, q⟩ := q.1 rfl
      obtain ⟨ds, h4, z4, q⟩ := ih (k + 1) _ h3 (by omega) q
      exact ⟨ds, h4, by unfold compL; rw [if_pos kp, z1]; dsimp only; rw [z2]; dsimp only; rw [z3]; dsimp only; rw [if_pos hl]; exact z4, q⟩
    | false =>
      obtain ⟨ds, h4, z4, q⟩ := ih (k + 1) _ h2 (by omega) (q.2 rfl)
      exact ⟨ds, h4, by unfold compL; rw [if_pos kp, z1]; dsimp only; rw [z2]; exact z4, q⟩
theorem wp_comp {w : M Src} {g : MG} {t : M Bool} {m : M D} {vs : List Nat} {Q : List D → Hs → Prop} (q : Wp w env hp fun src h => ∃ I : Nat → List D → Hs → Prop, I 0 [] h ∧ (∀ i acc h, I i acc h → i ≤ src.items.length → src.keep h) ∧
    (∀ i x acc h, src.items[i]? = some x → I i acc h → Tg g x (wipeE env vs) h fun e1 h1 => Wp t e1 h1 fun c h2 => (c = true → Wp m e1 h2 fun d h3 => acc.length < sizeLine ∧ I (i + 1) (acc ++ [d]) h3) ∧ (c = false → I (i + 1) acc h2)) ∧
    ∀ acc h, I src.items.length acc h → Q acc h) : Wp (mComp w g t m vs) env hp Q := by
  obtain ⟨src, h, e, I, h0, hk, st, fin⟩ := q
  obtain ⟨ds, h2, z, q⟩ := comp_inv I hk st fin src.items.length 0 [] h (by omega) h0
  rw [List.drop_zero] at z
  exact ⟨ds, h2, by unfold mComp; rw [e]; dsimp only; rw [z], q⟩
/-- a comprehension whose items change nothing -/
theorem wp_compP {w : M Src} {g : MG} {m : M D} {vs : List Nat} {Q : List D → Hs → Prop} (f : Nat → D → D) (q : Wp w env hp fun src h => src.keep h ∧ src.items.length ≤ sizeLine ∧
    (∀ i x, src.items[i]? = some x → Tg g x (wipeE env vs) h fun e1 h1 => Wp m e1 h1 fun d h2 => h2 = h ∧ d = f i x) ∧ Q (src.items.mapIdx f) h) : Wp (mComp w g (mC true) m vs) env hp Q := by
  refine wp_comp (q.mono fun src h q => ?_)
  obtain ⟨kp, hl, st, q⟩ := q
  refine ⟨fun i acc h' => h' = h ∧ acc = (src.items.take i).mapIdx f, ⟨rfl, by simp⟩, fun i acc h' z _ => by rw [z.1]; exact kp, fun i x acc h' hx z => ?_, fun acc h' z => ?_⟩
  · obtain ⟨rfl, rfl⟩ := z
    obtain ⟨e1, h1, z1, d, h2, z2, rfl, rfl⟩ := st i x hx
    have hi : i < src.items.length := (List.getElem?_eq_some_iff.mp hx).1
    refine ⟨e1, h1, z1, ⟨_, _, rfl, fun _ => ⟨_, _, z2, ?_, rfl, ?_⟩, fun c => by cases c⟩⟩
    · simp; omega
    · rw [List.take_succ, hx, List.mapIdx_append]
      simp [Nat.min_eq_left (Nat.le_of_lt hi)]
  · obtain ⟨rfl, rfl⟩ := z
    rw [List.take_length]; exact q
end
end Mi
-- MirOf
set_option Elab.async false
set_option linter.all false
set_option maxRecDepth 100000
set_option maxHeartbeats 4000000
/-! a tuple == (), a dict of one entry -/
namespace Mi
open PySem L2 PyProof.Rows PySem.Spec HT
end Mi
-- Com
set_option Elab.async false
set_option linter.all false
set_option maxRecDepth 100000
set_option maxHeartbeats 2000000
namespace Co
open PySem L2 PyProof.Rows PySem.Spec Mi
noncomputable def m__law_hand : MS := (sSeq (sSet 2 (mIf (mTst (mOp gLt (mVar 1) (mCB gLen (mCons (mVar 0) mNil)))) (mOp gIx (mVar 0) (mVar 1)) (mC (.int 0))))
 (sSeq (sSet 3 (mOp gMul (mOp gMod (mCB gAbs (mCons (mVar 2) mNil)) (mOp gMul (mOp gMul (mOp gPow (mC (.int 10)) (mC (.int 60))) (mOp gPow (mC (.int 10)) (mC (.int 60)))) (mOp gPow (mC (.int 10)) (mC (.int 60))))) (mCB gInt (mCons (mOp gGe (mCB gAbs (mCons (mVar 2) mNil)) (mOp gPow (mC (.int 10)) (mC (.int 18)))) mNil))))
 (sSeq (sRet (mBox (mLst (mCons (mVar 3) (mCons (mOp gMod (mOp gMul (mOp gAdd (mOp gAdd (mOp gMod (mVar 2) (mC (.int 2147483629))) (mOp gMul (mC (.int 7919)) (mVar 1))) (mC (.int 13))) (mC (.int 48271))) (mC (.int 2147483647))) (mCons (mC (.int 0)) mNil))))))
 sNil)))
noncomputable def f__law_hand : Fn := boxF (runB 4 m__law_hand)
noncomputable def m__law_take : MS := (sSeq (sIf (mTst (mOp gGt (mOp gIx (mVar 0) (mC (.int 0))) (mC (.int 0))))
 (sSeq (sSet 2 (mOp gMod (mOp gIx (mVar 0) (mC (.int 0))) (mVar 1)))
 (sSeq (sAsg (mOp gDiv (mOp gIx (mVar 0) (mC (.int 0))) (mVar 1)) (gSt (mVar 0) (mC (.int 0))))
 (sSeq (sRet (mVar 2))
 sNil)))
 sNil)
 (sSeq (sAsg (mOp gAdd (mOp gIx (mVar 0) (mC (.int 2))) (mC (.int 1))) (gSt (mVar 0) (mC (.int 2))))
 (sSeq (sSet 3 (mOp gIx (mNew (mLst (mCons (mC (.int 2147483647)) (mCons (mC (.int 2147483629)) (mCons (mC (.int 2147483587)) (mCons (mC (.int 2147483579)) (mCons (mC (.int 2147483563)) mNil))))))) (mOp gMod (mOp gIx (mVar 0) (mC (.int 2))) (mC (.int 5)))))
 (sSeq (sSet 4 (mOp gMod (mOp gPow (mOp gAdd (mOp gIx (mVar 0) (mC (.int 1))) (mOp gMul (mC (.int 7919)) (mOp gIx (mVar 0) (mC (.int 2))))) (mC (.int 3))) (mVar 3)))
 (sSeq (sRet (mOp gMod (mOp gDiv (mOp gMod (mOp gMul (mVar 4) (mOp gAdd (mOp gMod (mVar 4) (mC (.int 1009))) (mOp gIx (mVar 0) (mC (.int 2))))) (mVar 3)) (mC (.int 11))) (mVar 1)))
 sNil)))))
noncomputable def f__law_take : Fn := cutF (runB 5 m__law_take)
noncomputable def m__law_rows : MS := (sSeq (sSet 2 (mBox (mLst (mCons (mVar 1) mNil))))
 (sSeq (whileL (mTst (mOp gLt (mCB gLen (mCons (mVar 2) mNil)) (mVar 0)))
 (sSeq (sDrop (mMt gAppend (mVar 2) (mCons (mOp gAdd (mOp gAdd (mOp gIx (mVar 2) (mUn gNeg (mC (.int 1)))) (mOp gDiv (mOp gSub (mOp gIx (mVar 2) (mUn gNeg (mC (.int 1)))) (mC (.int 1))) (mCB gLen (mCons (mVar 2) mNil)))) (mVar 1)) mNil)))
 sNil) 1000000000000000)
 (sSeq (sRet (mSl gSl (mVar 2) (mC none) (mPart (mVar 0))))
 sNil)))
noncomputable def f__law_rows : Fn := cutF (runB 3 m__law_rows)
noncomputable def m_thresholds : MS := (sSeq (sSet 2 (mBox (mLst mNil)))
 (sSeq (sFor (mRange1 (mCons (mVar 0) mNil)) (gN 3)
 (sSeq (sSet 4 (mIf (mTst (mOp gNe (mVar 2) (mNew (mLst mNil)))) (mOp gIx (mVar 2) (mUn gNeg (mC (.int 1)))) (mC (.int 0))))
 (sSeq (sDrop (mMt gAppend (mVar 2) (mCons (mIf (mTst (mOp gGt (mVar 3) (mC (.int 0)))) (mOp gAdd (mOp gAdd (mVar 4) (mVar 1)) (mOp gDiv (mOp gSub (mVar 4) (mC (.int 1))) (mVar 3))) (mVar 1)) mNil)))
 sNil)))
 (sSeq (sRet (mCB gTup (mCons (mVar 2) mNil)))
 sNil)))
noncomputable def f_thresholds : Fn := cutF (runB 5 m_thresholds)
noncomputable def m__law_of : MS := (sSeq (sRet (mOp gIx (mVar 1) (mCall 2 f__law_take (mCons (mVar 0) (mCons (mCB gLen (mCons (mVar 1) mNil)) mNil)))))
 sNil)
noncomputable def f__law_of : Fn := cutF (runB 2 m__law_of)
noncomputable def m__law_demand : MS := (sSeq (sPar 3 4 (mCons (mBox (mOpN gMulN (mNew (mLst (mCons (mC (.int 0)) mNil))) (mVar 1))) (mCons (mVar 2) mNil)))
 (sSeq (whileL (mTst (mOp gGt (mVar 4) (mC (.int 0))))
 (sSeq (sSet 5 (mOp gAdd (mC (.int 1)) (mCall 2 f__law_take (mCons (mVar 0) (mCons (mVar 4) mNil)))))
 (sSeq (sSet 6 (mCall 2 f__law_take (mCons (mVar 0) (mCons (mOp gAdd (mVar 1) (mC (.int 1))) mNil))))
 (sSeq (sIf (mTst (mOp gLt (mVar 6) (mVar 1)))
 (sSeq (sAsg (mOp gAdd (mOp gIx (mVar 3) (mVar 6)) (mVar 5)) (gSt (mVar 3) (mVar 6)))
 sNil)
 sNil)
 (sSeq (sSet 4 (mOp gSub (mVar 4) (mVar 5)))
 sNil)))) 1000000000000000)
 (sSeq (sRet (mCB gTup (mCons (mVar 3) mNil)))
 sNil)))
noncomputable def f__law_demand : Fn := cutF (runB 7 m__law_demand)
noncomputable def m_stalled : MS := (sSeq (sRet (mCB gTup (mCons (mNew (mComp (mEnum1 (mCons (mVar 0) mNil)) (gT 2 (gsCons (gN 2) (gsCons (gN 3) gsNil))) (mTst (mOp gGt (mOp gIx (mVar 1) (mVar 2)) (mVar 3))) (mVar 2) [2, 3])) mNil)))
 sNil)
noncomputable def f_stalled : Fn := cutF (runB 4 m_stalled)
noncomputable def m_less_demand : MS := (sSeq (sSet 2 (mCall 2 f_stalled (mCons (mVar 0) (mCons (mVar 1) mNil))))
 (sSeq (sIf (mTst (mOp gNe (mVar 2) (mTup mNil)))
 (sSeq (sRaise1 "Stall" (mVar 2))
 sNil)
 sNil)
 (sSeq (sRet (mCB gTup (mCons (mNew (mComp (mZip (mCons (mVar 0) (mCons (mVar 1) mNil))) (gT 2 (gsCons (gN 3) (gsCons (gN 4) gsNil))) (mC true) (mOp gSub (mVar 3) (mVar 4)) [3, 4])) mNil)))
 sNil)))
noncomputable def f_less_demand : Fn := cutF (runB 5 m_less_demand)
noncomputable def m_changed : MS := (sSeq (sRet (mOp gAdd (mOp gAdd (mSl gSl (mVar 0) (mC none) (mPart (mVar 1))) (mTup (mCons (mOp gAdd (mOp gIx (mVar 0) (mVar 1)) (mVar 2)) mNil))) (mSl gSl (mVar 0) (mPart (mOp gAdd (mVar 1) (mC (.int 1)))) (mC none))))
 sNil)
noncomputable def f_changed : Fn := cutF (runB 3 m_changed)
noncomputable def m__law_mixed : MS := (sSeq (sPar 2 3 (mCons (mBox (mCBN gList (mCons (mVar 1) mNil))) (mCons (mBox (mLst mNil)) mNil)))
 (sSeq (whileL (mTst (mOp gNe (mVar 2) (mNew (mLst mNil))))
 (sSeq (sDrop (mMt gAppend (mVar 3) (mCons (mMt gPopAt (mVar 2) (mCons (mCall 2 f__law_take (mCons (mVar 0) (mCons (mCB gLen (mCons (mVar 2) mNil)) mNil))) mNil)) mNil)))
 sNil) 1000000000000000)
 (sSeq (sRet (mVar 3))
 sNil)))
noncomputable def f__law_mixed : Fn := boxF (runB 4 m__law_mixed)
noncomputable def m__law_near : MS := (sSeq (sSet 3 (mOp gAdd (mNew (mLst (mCons (mC (.int 0)) mNil))) (mCall 2 f__law_rows (mCons (mVar 1) (mCons (mVar 2) mNil)))))
 (sSeq (sSet 4 (mCall 2 f__law_mixed (mCons (mVar 0) (mCons (mNew (mComp (mRange1 (mCons (mVar 1) mNil)) (gN 10) (mC true) (mOp gSub (mOp gIx (mVar 3) (mOp gAdd (mVar 10) (mC (.int 1)))) (mOp gIx (mVar 3) (mVar 10))) [10])) mNil))))
 (sSeq (sFor (mRange1 (mCons (mCall 2 f__law_take (mCons (mVar 0) (mCons (mOp gAdd (mOp gMul (mC (.int 2)) (mVar 1)) (mC (.int 1))) mNil))) mNil)) (gN 5)
 (sSeq (sPar 6 7 (mCons (mCall 2 f__law_take (mCons (mVar 0) (mCons (mVar 1) mNil))) (mCons (mCall 2 f__law_take (mCons (mVar 0) (mCons (mVar 1) mNil))) mNil)))
 (sSeq (sSet 8 (mCall 2 f__law_of (mCons (mVar 0) (mCons (mNew (mLst (mCons (mC (.int 1)) (mCons (mC (.int 1)) (mCons (mC (.int 1)) (mCons (mC (.int 2)) (mCons (mC (.int 3)) mNil))))))) mNil))))
 (sSeq (sIf (mTst (mOp gGe (mOp gIx (mVar 4) (mVar 6)) (mVar 8)))
 (sSeq (sAsg (mOp gSub (mOp gIx (mVar 4) (mVar 6)) (mVar 8)) (gSt (mVar 4) (mVar 6)))
 (sSeq (sAsg (mOp gAdd (mOp gIx (mVar 4) (mVar 7)) (mVar 8)) (gSt (mVar 4) (mVar 7)))
 sNil))
 sNil)
 sNil))))
 (sSeq (sFor (mRange1 (mCons (mVar 1) mNil)) (gN 9)
 (sSeq (sAsg (mCB gMax (mCons (mC (.int 0)) (mCons (mOp gAdd (mOp gIx (mVar 4) (mVar 9)) (mCall 2 f__law_of (mCons (mVar 0) (mCons (mNew (mLst (mCons (mC (.int 0)) (mCons (mC (.int 0)) (mCons (mC (.int 0)) (mCons (mC (.int 0)) (mCons (mC (.int 0)) (mCons (mC (.int 0)) (mCons (mC (.int 1)) (mCons (mC (.int 2)) (mCons (mUn gNeg (mC (.int 1))) (mCons (mVar 2) mNil)))))))))))) mNil)))) mNil))) (gSt (mVar 4) (mVar 9)))
 sNil))
 (sSeq (sRet (mCB gTup (mCons (mVar 4) mNil)))
 sNil)))))
noncomputable def f__law_near : Fn := cutF (runB 11 m__law_near)
noncomputable def m__law_gap : MS := (sSeq (sSet 2 (mC (.int 0)))
 (sSeq (sFor (mEnumZ (mCons (mNew (mCBN gSorted (mCons (mVar 0) mNil))) (mCons (mCall 2 f__law_rows (mCons (mCB gLen (mCons (mVar 0) mNil)) (mCons (mVar 1) mNil))) mNil))) (gT 2 (gsCons (gN 3) (gsCons (gT 2 (gsCons (gN 4) (gsCons (gN 5) gsNil))) gsNil)))
 (sSeq (sSet 2 (mOp gAdd (mVar 2) (mVar 4)))
 (sSeq (sIf (mTst (mOp gLt (mVar 2) (mVar 5)))
 (sSeq (sRet (mOp gAdd (mVar 3) (mC (.int 1))))
 sNil)
 sNil)
 sNil)))
 (sSeq (sRet (mC .non))
 sNil)))
noncomputable def f__law_gap : Fn := cutF (runB 6 m__law_gap)
noncomputable def m_sums : MS := (sSeq (sPar 1 2 (mCons (mBox (mLst mNil)) (mCons (mC (.int 0)) mNil)))
 (sSeq (sFor (mIter (mNew (mCBN gSorted (mCons (mVar 0) mNil)))) (gN 3)
 (sSeq (sAug 2 (fun i j => i + j) (mVar 3))
 (sSeq (sDrop (mMt gAppend (mVar 1) (mCons (mVar 2) mNil)))
 sNil)))
 (sSeq (sRet (mCB gTup (mCons (mVar 1) mNil)))
 sNil)))
noncomputable def f_sums : Fn := cutF (runB 4 m_sums)
noncomputable def m_gap : MS := (sSeq (sFor (mEnumZ (mCons (mCall 1 f_sums (mCons (mVar 0) mNil)) (mCons (mCall 2 f_thresholds (mCons (mCB gLen (mCons (mVar 0) mNil)) (mCons (mVar 1) mNil))) mNil))) (gT 2 (gsCons (gN 2) (gsCons (gT 2 (gsCons (gN 3) (gsCons (gN 4) gsNil))) gsNil)))
 (sSeq (sIf (mTst (mOp gLt (mVar 3) (mVar 4)))
 (sSeq (sRet (mTup (mCons (mOp gAdd (mVar 2) (mC (.int 1))) (mCons (mVar 3) (mCons (mVar 4) mNil)))))
 sNil)
 sNil)
 sNil))
 (sSeq (sRet (mC .non))
 sNil))
noncomputable def f_gap : Fn := cutF (runB 5 m_gap)
noncomputable def m_is_safe : MS := (sSeq (sRet (mOp gIsN (mCall 2 f_gap (mCons (mVar 0) (mCons (mVar 1) mNil))) (mC .non)))
 sNil)
noncomputable def f_is_safe : Fn := cutF (runB 2 m_is_safe)
noncomputable def m__law_after : MS := (sSeq (sSet 4 (mBox (mComp (mZip (mCons (mVar 0) (mCons (mVar 1) mNil))) (gT 2 (gsCons (gN 5) (gsCons (gN 6) gsNil))) (mC true) (mOp gSub (mVar 5) (mVar 6)) [5, 6])))
 (sSeq (sAsg (mOp gAdd (mOp gIx (mVar 4) (mVar 2)) (mVar 3)) (gSt (mVar 4) (mVar 2)))
 (sSeq (sRet (mCB gTup (mCons (mVar 4) mNil)))
 sNil)))
noncomputable def f__law_after : Fn := cutF (runB 7 m__law_after)
noncomputable def m__law_safe_ones : MS := (sSeq (sSet 3 (mBox (mCBN gList (mCons (mCall 3 f__law_near (mCons (mVar 0) (mCons (mVar 1) (mCons (mVar 2) mNil)))) mNil))))
 (sSeq (whileL (mTst (mOp gNotN (mCall 2 f__law_gap (mCons (mVar 3) (mCons (mVar 2) mNil))) (mC .non)))
 (sSeq (sSet 4 (mIdx (mVar 3) (mCons (mCB gMin (mCons (mVar 3) mNil)) mNil)))
 (sSeq (sAsg (mOp gAdd (mOp gAdd (mOp gIx (mVar 3) (mVar 4)) (mC (.int 1))) (mCall 2 f__law_take (mCons (mVar 0) (mCons (mC (.int 2)) mNil)))) (gSt (mVar 3) (mVar 4)))
 sNil)) 1000000000000000)
 (sSeq (sRet (mCB gTup (mCons (mVar 3) mNil)))
 sNil)))
noncomputable def f__law_safe_ones : Fn := cutF (runB 5 m__law_safe_ones)
noncomputable def m__law_wish : MS := (sSeq (sPar 2 3 (mCons (mNew (mCBN gSorted (mCons (mOp gIx (mVar 1) (mC (.str "table"))) mNil))) (mCons (mOp gIx (mVar 1) (mC (.str "budget"))) mNil)))
 (sSeq (sSet 4 (mNew (mLst (mCons (mC (.str "enter")) (mCons (mC (.str "enter")) (mCons (mC (.str "deposit")) (mCons (mC (.str "withdraw")) (mCons (mC (.str "withdraw")) (mCons (mC (.str "transfer")) (mCons (mC (.str "transfer")) (mCons (mC (.str "tick")) (mCons (mC (.str "tick")) (mCons (mC (.str "tick")) mNil)))))))))))))
 (sSeq (sSet 5 (mCall 2 f__law_of (mCons (mVar 0) (mCons (mOp gAdd (mVar 4) (mNew (mLst (mCons (mC (.str "budget")) (mCons (mC (.str "leave")) (mCons (mC (.str "undo")) mNil)))))) mNil))))
 (sSeq (sIf (mOr (mTst (mOp gEq (mVar 5) (mC (.str "enter")))) (mTst (mOp gEq (mVar 2) (mNew (mLst mNil)))))
 (sSeq (sSet 6 (mOp gAdd (mVar 3) (mCall 2 f__law_of (mCons (mVar 0) (mCons (mNew (mLst (mCons (mC (.int 0)) (mCons (mC (.int 0)) (mCons (mOp gSub (mVar 3) (mC (.int 1))) (mCons (mVar 3) (mCons (mOp gMul (mC (.int 2)) (mVar 3)) (mCons (mOp gMul (mC (.int 3)) (mVar 3)) (mCons (mUn gNeg (mC (.int 1))) mNil))))))))) mNil)))))
 (sSeq (sRet (mTup (mCons (mC (.str "enter")) (mCons (mNew (mLst (mCons (mCall 2 f__law_of (mCons (mVar 0) (mCons (mNew (mLst (mCons (mC (.str "a")) (mCons (mC (.str "b")) (mCons (mC (.str "c")) (mCons (mC (.str "dd")) (mCons (mC (.str "zzzzzzzz")) mNil))))))) mNil))) (mCons (mCB gMax (mCons (mC (.int 0)) (mCons (mVar 6) mNil))) mNil)))) mNil))))
 sNil))
 sNil)
 (sSeq (sPar 7 8 (mCons (mCall 2 f__law_of (mCons (mVar 0) (mCons (mOp gAdd (mVar 2) (mNew (mLst (mCons (mC (.str "none")) mNil)))) mNil))) (mCons (mCall 2 f__law_of (mCons (mVar 0) (mCons (mNew (mLst (mCons (mC (.int 0)) (mCons (mC (.int 1)) (mCons (mC (.int 1)) (mCons (mC (.int 2)) (mCons (mVar 3) (mCons (mOp gAdd (mVar 3) (mC (.int 1))) mNil)))))))) mNil))) mNil)))
 (sSeq (sIf (mTst (mOp gEq (mVar 5) (mC (.str "transfer"))))
 (sSeq (sRet (mTup (mCons (mVar 5) (mCons (mNew (mLst (mCons (mVar 7) (mCons (mCall 2 f__law_of (mCons (mVar 0) (mCons (mVar 2) mNil))) (mCons (mVar 8) mNil))))) mNil))))
 sNil)
 sNil)
 (sSeq (sIf (mTst (mOp gEq (mVar 5) (mC (.str "tick"))))
 (sSeq (sPar 9 10 (mCons (mBox (mLst mNil)) (mCons (mOp gAdd (mVar 3) (mCB gInt (mCons (mOp gEq (mCall 2 f__law_take (mCons (mVar 0) (mCons (mC (.int 9)) mNil))) (mC (.int 0))) mNil))) mNil)))
 (sSeq (sFor (mIter (mVar 2)) (gN 11)
 (sSeq (sSet 12 (mCall 2 f__law_take (mCons (mVar 0) (mCons (mOp gAdd (mVar 10) (mC (.int 1))) mNil))))
 (sSeq (sSet 10 (mOp gSub (mVar 10) (mVar 12)))
 (sSeq (sDrop (mMt gExtend (mVar 9) (mCons (mOp gMul (mNew (mLst (mCons (mTup (mCons (mVar 11) (mCons (mVar 12) mNil))) mNil))) (mCB gInt (mCons (mOrV (mOp gGt (mVar 12) (mC (.int 0))) (mOp gEq (mCall 2 f__law_take (mCons (mVar 0) (mCons (mC (.int 3)) mNil))) (mC (.int 0)))) mNil))) mNil)))
 sNil))))
 (sSeq (sRet (mTup (mCons (mVar 5) (mCons (mNew (mLst (mCons (mCB gTup (mCons (mVar 9) mNil)) mNil))) mNil))))
 sNil)))
 sNil)
 (sSeq (sIf (mTst (mOp gEq (mVar 5) (mC (.str "budget"))))
 (sSeq (sRet (mTup (mCons (mVar 5) (mCons (mNew (mLst (mCons (mCB gMax (mCons (mC (.int 0)) (mCons (mOp gAdd (mVar 3) (mCall 2 f__law_of (mCons (mVar 0) (mCons (mNew (mLst (mCons (mUn gNeg (mC (.int 1))) (mCons (mC (.int 1)) (mCons (mC (.int 0)) (mCons (mUn gNeg (mC (.int 2))) (mCons (mC (.int 2)) mNil))))))) mNil)))) mNil))) mNil))) mNil))))
 sNil)
 sNil)
 (sSeq (sRet (mTup (mCons (mVar 5) (mCons (mIf (mTst (mOp gIn (mVar 5) (mTup (mCons (mC (.str "deposit")) (mCons (mC (.str "withdraw")) mNil))))) (mNew (mLst (mCons (mVar 7) (mCons (mVar 8) mNil)))) (mNew (mLst (mCons (mVar 7) mNil)))) mNil))))
 sNil)))))))))
noncomputable def f__law_wish : Fn := cutF (runB 13 m__law_wish)
noncomputable def m_best_grant : MS := (sSeq (sRet (mIdx (mVar 0) (mCons (mCB gMin (mCons (mVar 0) mNil)) mNil)))
 sNil)
noncomputable def f_best_grant : Fn := cutF (runB 1 m_best_grant)
noncomputable def m_good_grants : MS := (sSeq (sRet (mCB gTup (mCons (mNew (mComp (mRange1 (mCons (mCB gLen (mCons (mVar 0) mNil)) mNil)) (gN 2) (mTst (mCall 2 f_is_safe (mCons (mCall 3 f_changed (mCons (mVar 0) (mCons (mVar 2) (mCons (mVar 1) mNil)))) (mCons (mVar 1) mNil)))) (mVar 2) [2])) mNil)))
 sNil)
noncomputable def f_good_grants : Fn := cutF (runB 3 m_good_grants)
noncomputable def m_served : MS := (sSeq (sPar 3 4 (mCons (mBox (mLst mNil)) (mCons (mVar 0) mNil)))
 (sSeq (sFor (mIter (mVar 2)) (gN 5)
 (sSeq (sIf (mTst (mOp gNe (mCall 2 f_stalled (mCons (mVar 4) (mCons (mVar 5) mNil))) (mTup mNil)))
 (sSeq sBrk
 sNil)
 sNil)
 (sSeq (sSet 6 (mCall 2 f_less_demand (mCons (mVar 4) (mCons (mVar 5) mNil))))
 (sSeq (sDrop (mMt gAppend (mVar 3) (mCons (mCall 1 f_best_grant (mCons (mVar 6) mNil)) mNil)))
 (sSeq (sSet 4 (mCall 3 f_changed (mCons (mVar 6) (mCons (mOp gIx (mVar 3) (mUn gNeg (mC (.int 1)))) (mCons (mVar 1) mNil)))))
 sNil)))))
 (sSeq (sRet (mTup (mCons (mCB gTup (mCons (mVar 3) mNil)) (mCons (mVar 4) mNil))))
 sNil)))
noncomputable def f_served : Fn := cutF (runB 7 m_served)
end Co
-- Ev2
set_option Elab.async false
set_option linter.all false
set_option maxRecDepth 100000
set_option maxHeartbeats 2000000
namespace Mi
open PySem L2 PyProof.Rows PySem.Spec
section
variable {h hp : Hs} {d x y : D} {xs ds : List D} {i j : Int} {n k : Nat} {Q : D → Prop} {QL : List D → Prop}
/-! ### values -/
theorem g_add (q : Q (.int (i + j))) : Gt (gAdd h (.int i) (.int j)) Q := ⟨_, rfl, q⟩
theorem g_sub (q : Q (.int (i - j))) : Gt (gSub h (.int i) (.int j)) Q := ⟨_, rfl, q⟩
theorem g_neg (q : Q (.int (-i))) : Gt (gNeg h (.int i)) Q := ⟨_, rfl, q⟩
theorem g_mul (c : mulOk i j = true) (q : Q (.int (i * j))) : Gt (gMul h (.int i) (.int j)) Q := ⟨_, if_pos c, q⟩
theorem g_div (c : divOk i j = true) (q : Q (.int (i / j))) : Gt (gDiv h (.int i) (.int j)) Q := ⟨_, if_pos c, q⟩
theorem g_mod (c : 0 < j) (q : Q (.int (i % j))) : Gt (gMod h (.int i) (.int j)) Q := ⟨_, if_pos (decide_eq_true c), q⟩
theorem g_pow (c : powOk i j = true) (q : Q (.int (i ^ j.toNat))) : Gt (gPow h (.int i) (.int j)) Q := ⟨_, if_pos c, q⟩
theorem g_lt (q : Q (.bl (decide (i < j)))) : Gt (gLt h (.int i) (.int j)) Q := ⟨_, rfl, q⟩
theorem g_gt (q : Q (.bl (decide (j < i)))) : Gt (gGt h (.int i) (.int j)) Q := ⟨_, rfl, q⟩
theorem g_le (q : Q (.bl (decide (i ≤ j)))) : Gt (gLe h (.int i) (.int j)) Q := ⟨_, rfl, q⟩
theorem g_ge (q : Q (.bl (decide (j ≤ i)))) : Gt (gGe h (.int i) (.int j)) Q := ⟨_, rfl, q⟩
theorem g_eq (q : Q (.bl (decide (i = j)))) : Gt (gEq h (.int i) (.int j)) Q := ⟨_, rfl, q⟩
theorem g_ne (q : Q (.bl (!decide (i = j)))) : Gt (gNe h (.int i) (.int j)) Q := ⟨_, rfl, q⟩
theorem g_eqS {s t : Str} (q : Q (.bl (decide (s = t)))) : Gt (gEq h (.str s) (.str t)) Q := ⟨_, rfl, q⟩
theorem g_neS {s t : Str} (q : Q (.bl (!decide (s = t)))) : Gt (gNe h (.str s) (.str t)) Q := ⟨_, rfl, q⟩
theorem g_tst {b : Bool} {Q : Bool → Prop} (q : Q b) : Gt (match D.bl b with | .bl b => some b | _ => none) Q := ⟨_, rfl, q⟩
theorem seqv_look' (e : seqv h x = some xs) : look h x = .lst xs ∨ look h x = .tup xs ∨ look h x = .frz xs := by
  unfold seqv at e
  split at e <;> cases e
  · rename_i q; exact .inl q
  · rename_i q; exact .inr (.inl q)
  · rename_i q; exact .inr (.inr q)
theorem g_ix (e : seqv h x = some xs) (e2 : atI xs i = some d) (q : Q d) : Gt (gIx h x (.int i)) Q := by
  refine ⟨d, ?_, q⟩
  unfold gIx
  rcases seqv_look' e with e | e | e <;> rw [e] <;> exact e2
theorem g_len (e : seqv h x = some xs) (q : Q (.int xs.length)) : Gt (gLen h [x]) Q := by
  refine ⟨_, ?_, q⟩
  unfold gLen
  dsimp only
  have e' : seqv h (look h x) = some xs := by rw [seqv_look]; exact e
  rcases seqv_look' e with e | e | e <;> rw [e] at e' ⊢ <;> dsimp only <;> rw [e']
theorem g_abs (q : Q (.int (if i < 0 then -i else i))) : Gt (gAbs h [.int i]) Q := ⟨_, rfl, q⟩
theorem g_int (q : Q (.int i)) : Gt (gInt h [.int i]) Q := ⟨_, rfl, q⟩
theorem g_intB {b : Bool} (q : Q (.int (if b then 1 else 0))) : Gt (gInt h [.bl b]) Q := ⟨_, rfl, q⟩
theorem g_max2 (q : Q (.int (if j > i then j else i))) : Gt (gMax h [.int i, .int j]) Q := ⟨_, rfl, q⟩
theorem g_min2 (q : Q (.int (if j < i then j else i))) : Gt (gMin h [.int i, .int j]) Q := ⟨_, rfl, q⟩
theorem g_sum {ns : List Int} (e : seqv h x = some (ns.map .int)) (q : Q (.int ns.sum)) : Gt (gSum h [x]) Q := ⟨_, by unfold gSum; dsimp only; rw [e]; dsimp only; rw [ints_map], q⟩
theorem g_tup (e : seqv h x = some xs) (q : Q (.tup xs)) : Gt (gTup h [x]) Q := ⟨_, by unfold gTup; dsimp only; rw [e], q⟩
theorem g_list (e : seqv h x = some xs) (q : QL xs) : Gt (gList h [x]) QL := ⟨_, e, q⟩
theorem g_sorted {ns : List Int} (e : seqv h x = some (ns.map .int)) (q : QL ((sortI ns).map .int)) : Gt (gSorted h [x]) QL := ⟨_, by unfold gSorted; dsimp only; rw [e]; dsimp only; rw [ints_map], q⟩
theorem g_append {Q : D × List D → Prop} (c : xs.length < sizeLine) (q : Q (.non, xs ++ [d])) : Gt (gAppend h xs [d]) Q := ⟨_, if_pos c, q⟩
theorem g_sl_lst {lo hi : Option Int} (e : look h x = .lst xs) (q : Q (.lst (cutD xs lo hi))) : Gt (gSl h x lo hi) Q := ⟨_, by unfold gSl; rw [e], q⟩
theorem g_sl_tup {lo hi : Option Int} (e : look h x = .tup xs) (q : Q (.tup (cutD xs lo hi))) : Gt (gSl h x lo hi) Q := ⟨_, by unfold gSl; rw [e], q⟩
theorem g_addT {ys : List D} (e : look h x = .tup xs) (e2 : look h y = .tup ys) (c : xs.length + ys.length ≤ sizeLine) (q : Q (.tup (xs ++ ys))) : Gt (gAdd h x y) Q := ⟨_, by unfold gAdd; rw [e, e2]; exact if_pos c, q⟩
theorem g_addL {ys : List D} (e : look h x = .lst xs) (e2 : look h y = .lst ys) (c : xs.length + ys.length ≤ sizeLine) (q : Q (.lst (xs ++ ys))) : Gt (gAdd h x y) Q := ⟨_, by unfold gAdd; rw [e, e2]; exact if_pos c, q⟩
theorem and_sz {n : Nat} {P : Prop} (h : n ≤ sizeLine) (q : P) : n ≤ sizeLine ∧ P := ⟨h, q⟩
/-! ### sizes of ints -/
theorem log2_lt {n k : Nat} (h : n < 2 ^ k) (hk : 0 < k) : n.log2 < k := by
  by_cases h0 : n = 0
  · subst h0; simpa using hk
  · exact (Nat.log2_lt h0).mpr h
theorem abs_lt {i : Int} {k : Nat} (h1 : -(2 ^ k) < i) (h2 : i < 2 ^ k) : i.natAbs < 2 ^ k := by
  have e : ((2 ^ k : Nat) : Int) = (2 : Int) ^ k := by simp
  have : (i.natAbs : Int) < ((2 ^ k : Nat) : Int) := by rw [e]; omega
  exact_mod_cast this
theorem mulOk_of {k m : Nat} (h1 : -(2 ^ k) < i) (h2 : i < 2 ^ k) (h3 : -(2 ^ m) < j) (h4 : j < 2 ^ m) (hk : 0 < k := by decide) (hm : 0 < m := by decide) (hs : k + m ≤ 1000000 := by decide) : mulOk i j = true := by
  have a := log2_lt (abs_lt h1 h2) hk
  have b := log2_lt (abs_lt h3 h4) hm
  exact decide_eq_true (by omega)
theorem divOk_of {m : Nat} (h3 : 0 < j) (h4 : j < 2 ^ m) (hm : 0 < m := by decide) (hs : m ≤ 9000 := by decide) : divOk i j = true := by
  have b := log2_lt (abs_lt (i := j) (k := m) (by have : (0 : Int) ≤ 2 ^ m := Int.pow_nonneg (by decide); omega) h4) hm
  unfold divOk
  rw [decide_eq_true h3, decide_eq_true (by omega)]; rfl
theorem powOk_of (h1 : -(2 ^ 64) < i) (h2 : i < 2 ^ 64) (h3 : 0 ≤ j) (h4 : j ≤ 1000000) : powOk i j = true := by
  have a := abs_lt h1 h2
  unfold powOk
  rw [decide_eq_true h3, decide_eq_true h4, decide_eq_true a]; rfl
/-! ### lists by place -/
theorem ixN_nat {n k : Nat} (h : k < n) : ixN n (k : Int) = some k := by
  unfold ixN
  simp only [Int.toNat_natCast]
  rw [if_pos (by omega)]
  try (rw [if_pos (by omega)])
end
end Mi
-- Nice
set_option Elab.async false
set_option linter.all false
set_option maxRecDepth 100000
set_option maxHeartbeats 2000000
namespace Mi
open PySem L2 PyProof.Rows PySem.Spec
/-- data with short ints: m items in all, dep deep -/
structure Nice (B m dep : Nat) (d : D) (p : PyData) : Prop where
  py : d.py = some p
  sh : p.showable = true
  nd : p.hasDict = false
  dp : p.depth ≤ dep
  lv : p.leavesShort B = true
  bk : p.bulk ≤ m
  cl : p.canLay0 = true
structure NiceL (B m dep : Nat) (ds : List D) (ps : List PyData) : Prop where
  py : D.pyAll ds = some ps
  sh : PyData.showableAll ps = true
  nd : PyData.hasDictAll ps = false
  dp : PyData.depthAll ps ≤ dep
  lv : PyData.leavesShortAll B ps = true
  bk : PyData.bulkAll ps ≤ m
  cl : PyData.canLayAll0 ps = true
section
variable {B m m' m2 dep dep' k : Nat} {d : D} {p : PyData} {ds : List D} {ps : List PyData} {i : Int} {h : Hs} {x y : D} {Q : D → Prop}
theorem Nice.mono (n : Nice B m dep d p) (h1 : m ≤ m') (h2 : dep ≤ dep') : Nice B m' dep' d p := ⟨n.py, n.sh, n.nd, Nat.le_trans n.dp h2, n.lv, Nat.le_trans n.bk h1, n.cl⟩
theorem NiceL.mono (n : NiceL B m dep ds ps) (h1 : m ≤ m') (h2 : dep ≤ dep') : NiceL B m' dep' ds ps := ⟨n.py, n.sh, n.nd, Nat.le_trans n.dp h2, n.lv, Nat.le_trans n.bk h1, n.cl⟩
theorem abs_lt10 {k : Nat} (h1 : -(10 ^ k) < i) (h2 : i < 10 ^ k) : i.natAbs < 10 ^ k := by
  have e : ((10 ^ k : Nat) : Int) = (10 : Int) ^ k := by simp
  have : (i.natAbs : Int) < ((10 ^ k : Nat) : Int) := by rw [e]; omega
  exact_mod_cast this
theorem Nice.int (h1 : -(10 ^ k) < i) (h2 : i < 10 ^ k) (hk : 0 < k := by decide) (hB : k + 1 ≤ B := by decide) (hs : 4 * k ≤ 1920 := by decide) : Nice B 0 0 (.int i) (.int i) := by
  have a := abs_lt10 h1 h2
  refine ⟨rfl, ?_, rfl, ?_, ?_, ?_, rfl⟩
  · rw [PyData.showable]
    refine decide_eq_true ?_
    have : i.natAbs < 2 ^ (4 * k) := Nat.lt_of_lt_of_le a (by rw [Nat.pow_mul]; exact Nat.pow_le_pow_left (by decide) k)
    have := log2_lt this (by omega)
    omega
  · rw [PyData.depth]; exact Nat.le_refl _
  · rw [PyData.leavesShort]
    refine decide_eq_true ?_
    rw [PyData.shown]
    have := int_text_length_le10 hk a
    show (Str.ofString (toString i)).length ≤ B
    rw [PySem.ofString_length]
    omega
  · rw [PyData.bulk]; exact Nat.le_refl _
theorem Nice.bl {b : Bool} : Nice B 0 0 (.bl b) (.bool b) := ⟨rfl, by rw [PyData.showable], by rw [PyData.hasDict], by rw [PyData.depth]; omega, by rw [PyData.leavesShort], by rw [PyData.bulk]; omega, by rw [PyData.canLay0]⟩
theorem Nice.non : Nice B 0 0 .non .none := ⟨rfl, by rw [PyData.showable], by rw [PyData.hasDict], by rw [PyData.depth]; omega, by rw [PyData.leavesShort], by rw [PyData.bulk]; omega, by rw [PyData.canLay0]⟩
theorem Nice.lst (n : NiceL B m dep ds ps) : Nice B m (dep + 1) (.lst ds) (.list ps) :=
  ⟨by rw [D.py, n.py], by rw [PyData.showable]; exact n.sh, by rw [PyData.hasDict]; exact n.nd, by rw [PyData.depth]; have := n.dp; omega, by rw [PyData.leavesShort]; exact n.lv, by rw [PyData.bulk]; exact n.bk, by rw [PyData.canLay0]; exact n.cl⟩
theorem Nice.tup (n : NiceL B m dep ds ps) : Nice B m (dep + 1) (.tup ds) (.tuple ps) :=
  ⟨by rw [D.py, n.py], by rw [PyData.showable]; exact n.sh, by rw [PyData.hasDict]; exact n.nd, by rw [PyData.depth]; have := n.dp; omega, by rw [PyData.leavesShort]; exact n.lv, by rw [PyData.bulk]; exact n.bk, by rw [PyData.canLay0]; exact n.cl⟩
theorem NiceL.nil : NiceL B 0 0 [] [] := ⟨rfl, by rw [PyData.showableAll], by rw [PyData.hasDictAll], by rw [PyData.depthAll]; omega, by rw [PyData.leavesShortAll], by rw [PyData.bulkAll]; omega, by rw [PyData.canLayAll0]⟩
theorem NiceL.cons (n : Nice B m dep d p) (l : NiceL B m2 dep ds ps) : NiceL B (m + 1 + m2) dep (d :: ds) (p :: ps) :=
  ⟨by rw [D.pyAll, n.py, l.py], by rw [PyData.showableAll, n.sh, l.sh]; rfl, by rw [PyData.hasDictAll, n.nd, l.nd]; rfl, by rw [PyData.depthAll]; have := n.dp; have := l.dp; omega, by rw [PyData.leavesShortAll, n.lv, l.lv]; rfl, by rw [PyData.bulkAll]; have := n.bk; have := l.bk; omega, by rw [PyData.canLayAll0, n.cl, l.cl]; rfl⟩
theorem NiceL.map {α : Type} {f : α → D} {g : α → PyData} : ∀ (l : List α), (∀ a ∈ l, Nice B m dep (f a) (g a)) → NiceL B (l.length * (m + 1)) dep (l.map f) (l.map g)
  | [], _ => NiceL.nil.mono (by omega) (by omega)
  | a :: l, h => (NiceL.cons (h a (by simp)) (NiceL.map l fun b hb => h b (by simp [hb]))).mono (by rw [List.length_cons, Nat.add_mul]; omega) (Nat.le_refl _)
theorem NiceL.ints {ns : List Int} (h : ∀ i ∈ ns, -(10 ^ k) < i ∧ i < 10 ^ k) (hk : 0 < k := by decide) (hB : k + 1 ≤ B := by decide) (hs : 4 * k ≤ 1920 := by decide) : NiceL B ns.length 0 (ns.map .int) (ns.map .int) :=
  (NiceL.map (m := 0) ns fun i hi => Nice.int (h i hi).1 (h i hi).2 hk hB hs).mono (by omega) (Nat.le_refl _)
theorem Nice.ok (n : Nice B m dep d p) (hB : 8 ≤ B) (hd : dep ≤ 40) (hm : (B + 2) * m + B ≤ sizeLine) : reprOk p = true := by
  have a := PyData.shown_le_bulk B hB p n.lv
  have b : (B + 2) * p.bulk ≤ (B + 2) * m := Nat.mul_le_mul_left _ n.bk
  have c := n.dp
  unfold reprOk
  rw [n.sh, n.nd, decide_eq_true (by omega), decide_eq_true (by omega)]; rfl
theorem eqvAll_ints : ∀ as bs : List Int, PyData.eqvAll (as.map .int) (bs.map .int) = decide (as = bs)
  | [], [] => by simp [PyData.eqvAll]
  | [], b :: bs => by simp [PyData.eqvAll]
  | a :: as, [] => by simp [PyData.eqvAll]
  | a :: as, b :: bs => by
    rw [List.map_cons, List.map_cons, PyData.eqvAll, eqvAll_ints as bs, PyData.eqv]
    by_cases e : a = b <;> by_cases e2 : as = bs <;> simp [e, e2]
/-- .. of lists of ints, however great: no bound is needed -/
theorem pyAll_ints (ns : List Int) : D.pyAll (ns.map .int) = some (ns.map .int) := by
  induction ns with
  | nil => rfl
  | cons n ns ih => rw [List.map_cons, D.pyAll, ih]; rfl
theorem lay_ints (ns : List Int) : PyData.canLayAll0 (ns.map .int) = true ∧ PyData.depthAll (ns.map .int) = 0 := by
  induction ns with
  | nil => exact ⟨by rw [List.map_nil, PyData.canLayAll0], by rw [List.map_nil, PyData.depthAll]⟩
  | cons n ns ih => exact ⟨by rw [List.map_cons, PyData.canLayAll0, ih.1, PyData.canLay0]; rfl, by rw [List.map_cons, PyData.depthAll, ih.2, PyData.depth]; rfl⟩
theorem shp_lst (ns : List Int) : SeqAt.shaped (.list (ns.map .int)) = true := by
  unfold SeqAt.shaped
  rw [PyData.canLay0, (lay_ints ns).1, PyData.depth, (lay_ints ns).2]; rfl
theorem eqD_lst {as bs : List Int} (e1 : look h x = .lst (as.map .int)) (e2 : look h y = .lst (bs.map .int)) : eqD h x y = some (decide (as = bs)) := by
  unfold eqD
  rw [e1, e2]
  dsimp only
  rw [D.py, D.py, pyAll_ints, pyAll_ints]
  dsimp only
  rw [if_pos ⟨shp_lst as, shp_lst bs⟩, PyData.eqv, eqvAll_ints]
theorem g_neIL {as bs : List Int} (e1 : look h x = .lst (as.map .int)) (e2 : look h y = .lst (bs.map .int)) (q : Q (.bl (!decide (as = bs)))) : Gt (gNe h x y) Q := ⟨_, by unfold gNe; rw [eqD_lst e1 e2], q⟩
end
end Mi
-- Sp1
set_option Elab.async false
set_option linter.all false
set_option maxRecDepth 100000
set_option maxHeartbeats 2000000
namespace Mi
open PySem L2 PyProof.Rows PySem.Spec
local macro_rules | `(tactic| trivial) => `(tactic| first
  | with_reducible refine wp_op ?_
  | ((with_reducible refine wp_var ?_); refine gs_rfl ?_)
  | with_reducible refine wp_c ?_
  | with_reducible refine wp_cons ?_
  | with_reducible refine wp_nil ?_
  | with_reducible refine wp_cb ?_
  | with_reducible refine wp_cbn ?_
  | with_reducible refine wp_tst ?_
  | with_reducible refine wp_if ?_
  | with_reducible refine wp_un ?_
  | with_reducible refine wp_new ?_
  | with_reducible refine wp_box ?_
  | with_reducible refine wp_and ?_
  | with_reducible refine wp_or ?_
  | with_reducible refine wp_not ?_
  | with_reducible refine wp_sl ?_
  | with_reducible refine wp_call ?_
  | with_reducible refine wp_tup ?_
  | with_reducible refine wp_lst ?_
  | with_reducible refine wp_part ?_
  | with_reducible refine wp_mt ?_
  | with_reducible refine wp_iter ?_
  | with_reducible refine wp_range1 ?_
  | with_reducible refine wp_range2 ?_
  | with_reducible refine and_sz (by exact Nat.le_of_ble_eq_true rfl) ?_
  | with_reducible refine ws_seq ?_
  | with_reducible refine ws_set ?_
  | with_reducible refine ws_if ?_
  | with_reducible refine ws_ret ?_
  | with_reducible refine ws_drop ?_
  | with_reducible refine ws_nil ?_
  | with_reducible refine ws_par ?_
  | with_reducible refine ws_asg ?_
  | with_reducible refine tg_st ?_
  | with_reducible refine tg_n ?_
  | with_reducible refine g_add ?_
  | with_reducible refine g_sub ?_
  | with_reducible refine g_neg ?_
  | with_reducible refine g_lt ?_
  | with_reducible refine g_gt ?_
  | with_reducible refine g_le ?_
  | with_reducible refine g_ge ?_
  | with_reducible refine g_eq ?_
  | with_reducible refine g_ne ?_
  | with_reducible refine g_eqS ?_
  | with_reducible refine g_neS ?_
  | with_reducible refine g_tst ?_
  | with_reducible refine g_abs ?_
  | with_reducible refine g_int ?_
  | with_reducible refine g_intB ?_
  | with_reducible refine g_max2 ?_
  | with_reducible refine g_min2 ?_
  | with_reducible refine g_mul ?_ ?_
  | with_reducible refine g_div ?_ ?_
  | with_reducible refine g_mod ?_ ?_
  | with_reducible refine g_pow ?_ ?_
  | refine g_ix (by first | assumption | with_reducible rfl) (by first | assumption | rfl) ?_
  | refine g_len (by first | assumption | with_reducible rfl) ?_
  | with_reducible refine g_append ?_ ?_
  | dsimp only [List.set])
open Co
section
variable {h hp : Hs} {d : D} {xs ds : List D} {n k : Nat} {Q : D → Hs → Prop} {g x t m : Int} {body : MS} {env : Env}
theorem fs_run {N : Nat} (env : Env) (he : ds.map some ++ List.replicate (N - ds.length) none = env) (q : Ws body env hp ⟨fun _ h => Q .non h, Q, fun _ _ => False, fun _ _ => False⟩) : Fs (runB N body) ds hp Q := by
  obtain ⟨fl, e, h, z, q⟩ := q
  rw [← he] at z
  cases fl with
  | nx => exact ⟨.non, h, by unfold runB; rw [z], q⟩
  | rt d => exact ⟨d, h, by unfold runB; rw [z], q⟩
  | bk => exact q.elim
  | ct => exact q.elim
  | ex c d => exact q.elim
theorem fs_cut {f : Fn} (q : Fs f ds hp fun d h => keepsB hp.length hp h ∧ ∃ d', ice hp.length none h 8 d = some d' ∧ Q d' (h.take hp.length)) : Fs (cutF f) ds hp Q := by
  obtain ⟨d, h, e, kb, d', e2, q⟩ := q
  exact ⟨d', _, by unfold cutF; rw [e]; dsimp only; rw [if_pos kb, e2], q⟩
theorem fs_box {f : Fn} (q : Fs f ds hp fun d h => keepsB hp.length hp h ∧ ∃ m xs ys, d = .loc m ∧ hp.length ≤ m ∧ h[m]? = some (some (.lst xs)) ∧ allD (ice hp.length (some m) h 8) xs = some ys ∧ Q (.loc hp.length) (h.take hp.length ++ [some (.lst ys)])) : Fs (boxF f) ds hp Q := by
  obtain ⟨d, h, e, kb, m, xs, ys, rfl, hm, e2, e3, q⟩ := q
  exact ⟨_, _, by unfold boxF; rw [e]; dsimp only; rw [if_pos ⟨kb, hm⟩, e2]; dsimp only; rw [e3], q⟩
/-- what lies beyond the boxes of the caller is not seen -/
theorem keepsB_app {h2 : Hs} {n : Nat} (k : keepsB n hp h) (hl : n ≤ h.length) : keepsB n hp (h ++ h2) := fun i o hi e => by
  rw [List.getElem?_append_left (by omega)] at e
  exact k i o hi e
theorem keepsB_refl : keepsB n hp hp := fun i o hi e => .inl e
theorem keepsB_set {o : Ob} {m : Nat} (k : keepsB n hp h) (hl : lowO n o = true) : keepsB n hp (h.set m (some o)) := fun i o' hi e => by
  by_cases z : m = i
  · subst z
    by_cases hm : m < h.length
    · rw [List.getElem?_set_self hm] at e
      cases e; exact .inr hl
    · rw [List.getElem?_eq_none (by rw [List.length_set]; omega)] at e
      cases e
  · rw [List.getElem?_set_ne z] at e
    exact k i o' hi e
def hand (g x t : Int) : Option Ob := some (.lst [.int g, .int x, .int t])
/-- the hand's box is there -/
structure Hd (hp : Hs) (n : Nat) (g x t : Int) : Prop where
  at_ : hp[n]? = some (hand g x t)
  g0 : 0 ≤ g
  x0 : 0 ≤ x
  x1 : x < 2 ^ 32
  t0 : 0 ≤ t
theorem Hd.seqv (H : Hd hp n g x t) : seqv hp (.loc n) = some [.int g, .int x, .int t] := seqv_loc H.at_
theorem Hd.lt (H : Hd hp n g x t) : n < hp.length := (List.getElem?_eq_some_iff.mp H.at_).1
theorem Hd.set {g' t' : Int} (H : Hd hp n g x t) (h0 : 0 ≤ g') (h1 : 0 ≤ t') : Hd (hp.set n (hand g' x t')) n g' x t' :=
  ⟨by rw [List.getElem?_set_self H.lt], h0, H.x0, H.x1, h1⟩
theorem take_set {o : Option Ob} : (hp.set n o).take hp.length = hp.set n o := List.take_of_length_le (by simp)
theorem prime_at {k : Int} (h0 : 0 ≤ k) (h1 : k < 5) : ∃ p : Int, atI [D.int 2147483647, .int 2147483629, .int 2147483587, .int 2147483579, .int 2147483563] k = some (.int p) ∧ 2000000000 < p ∧ p < 2147483648 := by
  have : k = 0 ∨ k = 1 ∨ k = 2 ∨ k = 3 ∨ k = 4 := by omega
  rcases this with rfl | rfl | rfl | rfl | rfl <;> exact ⟨_, rfl, by decide, by decide⟩
theorem take_spec (H : Hd hp n g x t) (ht : t < 2 ^ 50) (hm : 0 < m) (hm2 : m < 2 ^ 60) : Fs f__law_take [.loc n, .int m] hp fun d h => ∃ r g' t', d = .int r ∧ 0 ≤ r ∧ r < m ∧ h = hp.set n (hand g' x t') ∧ Hd h n g' x t' ∧ t ≤ t' ∧ t' ≤ t + 1 := by
  refine fs_cut (fs_run [some (.loc n), some (.int m), none, none, none] rfl ?_)
  unfold m__law_take
  have s0 := H.seqv
  repeat trivial
  refine ⟨fun c => ?_, fun c => ?_⟩
  · repeat trivial
    · exact divOk_of (m := 60) hm (by omega)
    repeat trivial
    refine ⟨n, 0, _, 0, rfl, rfl, H.at_, rfl, ?_⟩
    repeat trivial
    have H2 : Hd (hp.set n (hand (g / m) x t)) n (g / m) x t := H.set (Int.ediv_nonneg H.g0 (by omega)) H.t0
    exact ⟨keepsB_set keepsB_refl rfl, _, rfl, g % m, g / m, t, rfl, Int.emod_nonneg _ (by omega), Int.emod_lt_of_pos _ hm, take_set, by rw [take_set]; exact H2, by omega, by omega⟩
  · repeat trivial
    refine ⟨n, 2, _, 2, rfl, rfl, H.at_, rfl, ?_⟩
    have H2 : Hd (hp.set n (hand g x (t + 1))) n g x (t + 1) := H.set H.g0 (by have := H.t0; omega)
    have s2 : seqv (hp.set n (some (.lst ([D.int g, .int x, .int t].set 2 (.int (t + 1)))))) (.loc n) = some [.int g, .int x, .int (t + 1)] := H2.seqv
    show Ws _ _ (hp.set n (hand g x (t + 1))) _
    have e2 : seqv (hp.set n (hand g x (t + 1))) (.loc n) = some [.int g, .int x, .int (t + 1)] := H2.seqv
    have hx0 := H.x0
    have hx1 := H.x1
    have ht0 := H.t0
    repeat trivial
    obtain ⟨p, ep, p1, p2⟩ := prime_at (k := (t + 1) % 5) (Int.emod_nonneg _ (by decide)) (Int.emod_lt_of_pos _ (by decide))
    refine g_ix (seqv_lst) ep ?_
    repeat trivial
    · exact mulOk_of (k := 13) (m := 60) (by decide) (by decide) (by omega) (by omega)
    repeat trivial
    · exact powOk_of (by omega) (by omega) (by decide) (by decide)
    repeat trivial
    · omega
    have y0 := Int.emod_nonneg ((x + 7919 * (t + 1)) ^ (3 : Int).toNat) (b := p) (by omega)
    have y1 := Int.emod_lt_of_pos ((x + 7919 * (t + 1)) ^ (3 : Int).toNat) (b := p) (by omega)
    generalize (x + 7919 * (t + 1)) ^ (3 : Int).toNat % p = y at y0 y1 ⊢
    repeat trivial
    · exact mulOk_of (k := 32) (m := 60) (by omega) (by omega) (by omega) (by omega)
    repeat trivial
    · omega
    repeat trivial
    refine ⟨keepsB_set keepsB_refl rfl, _, rfl, _, g, t + 1, rfl, Int.emod_nonneg _ (by omega), Int.emod_lt_of_pos _ hm, take_set, by rw [take_set]; exact H2, by omega, by omega⟩
end
end Mi
-- Sp2
set_option Elab.async false
set_option linter.all false
set_option maxRecDepth 100000
set_option maxHeartbeats 2000000
namespace Mi
open PySem L2 PyProof.Rows PySem.Spec
local macro_rules | `(tactic| trivial) => `(tactic| first
  | with_reducible refine wp_op ?_
  | ((with_reducible refine wp_var ?_); refine gs_rfl ?_)
  | with_reducible refine wp_c ?_
  | with_reducible refine wp_cons ?_
  | with_reducible refine wp_nil ?_
  | with_reducible refine wp_cb ?_
  | with_reducible refine wp_cbn ?_
  | with_reducible refine wp_tst ?_
  | with_reducible refine wp_if ?_
  | with_reducible refine wp_un ?_
  | with_reducible refine wp_new ?_
  | with_reducible refine wp_box ?_
  | with_reducible refine wp_and ?_
  | with_reducible refine wp_or ?_
  | with_reducible refine wp_not ?_
  | with_reducible refine wp_sl ?_
  | with_reducible refine wp_call ?_
  | with_reducible refine wp_tup ?_
  | with_reducible refine wp_lst ?_
  | with_reducible refine wp_part ?_
  | with_reducible refine wp_mt ?_
  | with_reducible refine wp_iter ?_
  | with_reducible refine wp_range1 ?_
  | with_reducible refine wp_range2 ?_
  | with_reducible refine and_sz (by exact Nat.le_of_ble_eq_true rfl) ?_
  | with_reducible refine ws_seq ?_
  | with_reducible refine ws_set ?_
  | with_reducible refine ws_if ?_
  | with_reducible refine ws_ret ?_
  | with_reducible refine ws_drop ?_
  | with_reducible refine ws_nil ?_
  | with_reducible refine ws_par ?_
  | with_reducible refine ws_asg ?_
  | with_reducible refine tg_st ?_
  | with_reducible refine tg_n ?_
  | with_reducible refine g_add ?_
  | with_reducible refine g_sub ?_
  | with_reducible refine g_neg ?_
  | with_reducible refine g_lt ?_
  | with_reducible refine g_gt ?_
  | with_reducible refine g_le ?_
  | with_reducible refine g_ge ?_
  | with_reducible refine g_eq ?_
  | with_reducible refine g_ne ?_
  | with_reducible refine g_eqS ?_
  | with_reducible refine g_neS ?_
  | with_reducible refine g_tst ?_
  | with_reducible refine g_abs ?_
  | with_reducible refine g_int ?_
  | with_reducible refine g_intB ?_
  | with_reducible refine g_max2 ?_
  | with_reducible refine g_min2 ?_
  | with_reducible refine g_mul ?_ ?_
  | with_reducible refine g_div ?_ ?_
  | with_reducible refine g_mod ?_ ?_
  | with_reducible refine g_pow ?_ ?_
  | refine g_ix (by first | assumption | with_reducible rfl) (by first | assumption | rfl) ?_
  | refine g_len (by first | assumption | with_reducible rfl) ?_
  | with_reducible refine g_append ?_ ?_
  | dsimp only [List.set])
open Co
section
variable {h hp hp' h1 h2 : Hs} {d : D} {xs ds : List D} {n k : Nat} {Q : D → Hs → Prop} {g x t m T T' : Int} {body : MS} {env : Env}
/-- the hand's box, after at most T draws -/
def Hn (hp : Hs) (n : Nat) (T : Int) : Prop := ∃ g x t, Hd hp n g x t ∧ t ≤ T
/-- only box n has changed -/
structure Sm (n : Nat) (hp h : Hs) : Prop where
  len : h.length = hp.length
  eq : ∀ i, i ≠ n → h[i]? = hp[i]?
theorem Sm.refl : Sm n hp hp := ⟨rfl, fun _ _ => rfl⟩
theorem Sm.trans (a : Sm n hp h1) (b : Sm n h1 h2) : Sm n hp h2 := ⟨b.len.trans a.len, fun i hi => (b.eq i hi).trans (a.eq i hi)⟩
theorem Sm.set {o : Option Ob} : Sm n hp (hp.set n o) := ⟨by simp, fun i hi => List.getElem?_set_ne (Ne.symm hi)⟩
theorem Hn.mono (H : Hn hp n T) (h : T ≤ T') : Hn hp n T' := by
  obtain ⟨g, x, t, H, ht⟩ := H; exact ⟨g, x, t, H, by omega⟩
theorem Hn.lt (H : Hn hp n T) : n < hp.length := by obtain ⟨_, _, _, H, _⟩ := H; exact H.lt
/-- a box of the caller behind the change of another -/
theorem Sm.keeps (s : Sm n hp h) (H : Hn h n T) : keepsB hp.length hp h := fun i o hi e => by
  by_cases z : i = n
  · subst z
    obtain ⟨g, x, t, H, _⟩ := H
    rw [H.at_] at e
    cases e
    exact .inr rfl
  · rw [s.eq i z] at e; exact .inl e
theorem Hn.take (H : Hn h n T) (hn : n < k) : Hn (h.take k) n T := by
  obtain ⟨g, x, t, H, ht⟩ := H
  exact ⟨g, x, t, ⟨by rw [List.getElem?_take_of_lt hn]; exact H.at_, H.g0, H.x0, H.x1, H.t0⟩, ht⟩
theorem Hn.app (H : Hn h n T) : Hn (h ++ h2) n T := by
  have := H.lt
  obtain ⟨g, x, t, H, ht⟩ := H
  exact ⟨g, x, t, ⟨by rw [List.getElem?_append_left this]; exact H.at_, H.g0, H.x0, H.x1, H.t0⟩, ht⟩
theorem Hn.set {o : Option Ob} {j : Nat} (H : Hn h n T) (hj : j ≠ n) : Hn (h.set j o) n T := by
  obtain ⟨g, x, t, H, ht⟩ := H
  exact ⟨g, x, t, ⟨by rw [List.getElem?_set_ne hj]; exact H.at_, H.g0, H.x0, H.x1, H.t0⟩, ht⟩
theorem take_sp (H : Hn hp n T) (hT : T < 2 ^ 50) (hm : 0 < m) (hm2 : m < 2 ^ 60) : Fs f__law_take [.loc n, .int m] hp fun d h => ∃ r, d = .int r ∧ 0 ≤ r ∧ r < m ∧ Hn h n (T + 1) ∧ Sm n hp h := by
  obtain ⟨g, x, t, H, ht⟩ := H
  refine (take_spec H (by omega) hm hm2).mono fun d h ⟨r, g', t', e, r0, r1, eh, H', a, b⟩ => ⟨r, e, r0, r1, ⟨_, _, _, H', by omega⟩, ?_⟩
  rw [eh]; exact Sm.set
theorem atI_nat {α : Type} {xs : List α} {k : Nat} (hk : k < xs.length) : atI xs (k : Int) = some xs[k] := by
  unfold atI
  rw [ixN_nat hk]
  exact List.getElem?_eq_getElem hk
theorem atI_int {α : Type} {xs : List α} {i : Int} (h0 : 0 ≤ i) (hk : i < xs.length) : ∃ x ∈ xs, atI xs i = some x := by
  obtain ⟨k, rfl⟩ := Int.eq_ofNat_of_zero_le h0
  have hk : k < xs.length := by omega
  exact ⟨xs[k], List.getElem_mem hk, atI_nat hk⟩
theorem hand_sp {ns : List Int} {k : Int} (h0 : 0 ≤ k) (h1 : k < 2 ^ 40) (hl : ns.length < 2 ^ 40) : Fs f__law_hand [.frz (ns.map .int), .int k] hp fun d h => d = .loc hp.length ∧ ∃ o, h = hp ++ [o] ∧ Hn h hp.length 0 := by
  refine fs_box (fs_run [some (.frz (ns.map .int)), some (.int k), none, none] rfl ?_)
  unfold m__law_hand
  have s0 : ∀ h, seqv h (.frz (ns.map .int)) = some (ns.map .int) := fun _ => rfl
  refine ws_seq ?_
  refine ws_set (Wp.mono (Q := fun d h => h = hp ∧ ∃ c, d = .int c) ?_ ?_)
  · repeat trivial
    refine g_len (s0 _) ?_
    repeat trivial
    refine ⟨fun c => ?_, fun c => ?_⟩
    · have c := of_decide_eq_true c
      obtain ⟨y, hy, e⟩ := atI_int h0 c
      obtain ⟨z, _, rfl⟩ := List.mem_map.mp hy
      repeat trivial
      refine g_ix (s0 _) e ?_
      exact ⟨rfl, z, rfl⟩
    · repeat trivial
      exact ⟨rfl, 0, rfl⟩
  · rintro d h ⟨rfl, c, rfl⟩
    have y0 := Int.emod_nonneg (if c < 0 then -c else c) (b := 10 ^ (60 : Int).toNat * 10 ^ (60 : Int).toNat * 10 ^ (60 : Int).toNat) (by decide +kernel)
    have y1 := Int.emod_lt_of_pos (if c < 0 then -c else c) (b := 10 ^ (60 : Int).toNat * 10 ^ (60 : Int).toNat * 10 ^ (60 : Int).toNat) (by decide +kernel)
    have y2 : (10 : Int) ^ (60 : Int).toNat * 10 ^ (60 : Int).toNat * 10 ^ (60 : Int).toNat < 2 ^ 600 := by decide +kernel
    have y3 : -(2 : Int) ^ 600 < 0 := by decide +kernel
    repeat trivial
    · generalize (if c < 0 then -c else c) % (10 ^ (60 : Int).toNat * 10 ^ (60 : Int).toNat * 10 ^ (60 : Int).toNat) = z at y0 y1 ⊢
      have y4 : z < 2 ^ 600 := Int.lt_trans y1 y2
      have y5 : -(2 : Int) ^ 600 < z := Int.lt_of_lt_of_le y3 y0
      generalize decide (10 ^ (18 : Int).toNat ≤ if c < 0 then -c else c) = q
      cases q <;> exact mulOk_of (k := 600) (m := 4) y5 y4 (by decide) (by decide)
    repeat trivial
    · exact mulOk_of (k := 60) (m := 60) (by decide) (by decide) (by omega) (by omega)
    repeat trivial
    · exact mulOk_of (k := 62) (m := 60) (by omega) (by omega) (by decide) (by decide)
    repeat trivial
    refine ⟨keepsB_app keepsB_refl (Nat.le_refl _), h.length, _, _, rfl, Nat.le_refl _, List.getElem?_concat_length, rfl, rfl, ?_⟩
    have w0 := Int.emod_nonneg ((c % 2147483629 + 7919 * k + 13) * 48271) (b := 2147483647) (by decide)
    have w1 := Int.emod_lt_of_pos ((c % 2147483629 + 7919 * k + 13) * 48271) (b := 2147483647) (by decide)
    rw [List.take_left]
    refine ⟨_, rfl, _, _, 0, ⟨List.getElem?_concat_length, ?_, w0, by omega, by omega⟩, by omega⟩
    generalize (if c < 0 then -c else c) % (10 ^ (60 : Int).toNat * 10 ^ (60 : Int).toNat * 10 ^ (60 : Int).toNat) = z at y0 y1 ⊢
    generalize decide (10 ^ (18 : Int).toNat ≤ if c < 0 then -c else c) = q
    cases q
    · show (0 : Int) ≤ z * 0; omega
    · show (0 : Int) ≤ z * 1; omega
end
end Mi
-- Sp3
set_option Elab.async false
set_option linter.all false
set_option maxRecDepth 100000
set_option maxHeartbeats 2000000
namespace Mi
open PySem L2 PyProof.Rows PySem.Spec
local macro_rules | `(tactic| trivial) => `(tactic| first
  | with_reducible refine wp_op ?_
  | ((with_reducible refine wp_var ?_); refine gs_rfl ?_)
  | with_reducible refine wp_c ?_
  | with_reducible refine wp_cons ?_
  | with_reducible refine wp_nil ?_
  | with_reducible refine wp_cb ?_
  | with_reducible refine wp_cbn ?_
  | with_reducible refine wp_tst ?_
  | with_reducible refine wp_if ?_
  | with_reducible refine wp_un ?_
  | with_reducible refine wp_new ?_
  | with_reducible refine wp_box ?_
  | with_reducible refine wp_and ?_
  | with_reducible refine wp_or ?_
  | with_reducible refine wp_not ?_
  | with_reducible refine wp_sl ?_
  | with_reducible refine wp_call ?_
  | with_reducible refine wp_tup ?_
  | with_reducible refine wp_lst ?_
  | with_reducible refine wp_part ?_
  | with_reducible refine wp_mt ?_
  | with_reducible refine wp_iter ?_
  | with_reducible refine wp_range1 ?_
  | with_reducible refine wp_range2 ?_
  | with_reducible refine and_sz (by exact Nat.le_of_ble_eq_true rfl) ?_
  | with_reducible refine ws_seq ?_
  | with_reducible refine ws_set ?_
  | with_reducible refine ws_if ?_
  | with_reducible refine ws_ret ?_
  | with_reducible refine ws_drop ?_
  | with_reducible refine ws_nil ?_
  | with_reducible refine ws_par ?_
  | with_reducible refine ws_asg ?_
  | with_reducible refine tg_st ?_
  | with_reducible refine tg_n ?_
  | with_reducible refine g_add ?_
  | with_reducible refine g_sub ?_
  | with_reducible refine g_neg ?_
  | with_reducible refine g_lt ?_
  | with_reducible refine g_gt ?_
  | with_reducible refine g_le ?_
  | with_reducible refine g_ge ?_
  | with_reducible refine g_eq ?_
  | with_reducible refine g_ne ?_
  | with_reducible refine g_eqS ?_
  | with_reducible refine g_neS ?_
  | with_reducible refine g_tst ?_
  | with_reducible refine g_abs ?_
  | with_reducible refine g_int ?_
  | with_reducible refine g_intB ?_
  | with_reducible refine g_max2 ?_
  | with_reducible refine g_min2 ?_
  | with_reducible refine g_mul ?_ ?_
  | with_reducible refine g_div ?_ ?_
  | with_reducible refine g_mod ?_ ?_
  | with_reducible refine g_pow ?_ ?_
  | refine g_ix (by first | assumption | with_reducible rfl) (by first | assumption | rfl) ?_
  | refine g_len (by first | assumption | with_reducible rfl) ?_
  | with_reducible refine g_append ?_ ?_
  | dsimp only [List.set])
open Co
section
variable {h hp hp' h1 h2 : Hs} {d : D} {xs ds : List D} {n k : Nat} {Q : D → Hs → Prop} {g x t m T T' : Int} {body : MS} {env : Env}
theorem of_sp {ns : List Int} (H : Hn hp n T) (hT : T < 2 ^ 50) (h0 : ns ≠ []) (hl : ns.length < 2 ^ 40) : Fs f__law_of [.loc n, .lst (ns.map .int)] hp fun d h => ∃ r ∈ ns, d = .int r ∧ Hn h n (T + 1) ∧ Sm n hp h := by
  have hlen : 0 < ns.length := List.length_pos_iff.mpr h0
  refine fs_cut (fs_run [some (.loc n), some (.lst (ns.map .int))] rfl ?_)
  unfold m__law_of
  have s0 : ∀ h, seqv h (.lst (ns.map .int)) = some (ns.map .int) := fun _ => rfl
  repeat trivial
  refine g_len (s0 _) ?_
  repeat trivial
  refine ⟨rfl, (take_sp H hT (by simpa using hlen) (by simp; omega)).mono ?_⟩
  rintro d h ⟨r, rfl, r0, r1, H', S⟩
  obtain ⟨y, hy, e⟩ := atI_int r0 r1
  obtain ⟨z, hz, rfl⟩ := List.mem_map.mp hy
  refine g_ix (s0 _) e ?_
  have tk : h.take hp.length = h := List.take_of_length_le (by rw [S.len]; exact Nat.le_refl _)
  exact ⟨S.keeps H', _, rfl, z, hz, rfl, by rw [tk]; exact H', by rw [tk]; exact S⟩
theorem allD_int {bn : Option Nat} {k : Nat} : ∀ ns : List Int, allD (ice n bn h (k + 1)) (ns.map D.int) = some (ns.map .int)
  | [] => rfl
  | i :: ns => by rw [List.map_cons, allD, allD_int ns]; rfl
theorem ice_lstI {bn : Option Nat} {k : Nat} {ns : List Int} : ice n bn h (k + 2) (.lst (ns.map .int)) = some (.lst (ns.map .int)) := by
  rw [ice, allD_int]; rfl
theorem ice_tupI {bn : Option Nat} {k : Nat} {ns : List Int} : ice n bn h (k + 2) (.tup (ns.map .int)) = some (.tup (ns.map .int)) := by
  rw [ice, allD_int]; rfl
/-! ### thresholds -/
def row (b : Int) : Nat → Int
  | 0 => b
  | k + 1 => row b k + (row b k - 1) / ((k : Int) + 1) + b
def rowsL (b : Int) (n : Nat) : List Int := (List.range n).map (row b)
@[simp] theorem rowsL_len {b : Int} {n : Nat} : (rowsL b n).length = n := by simp [rowsL]
theorem rowsL_succ {b : Int} {n : Nat} : rowsL b (n + 1) = rowsL b n ++ [row b n] := by simp [rowsL, List.range_succ]
theorem rowsL_get {b : Int} {n k : Nat} (h : k < n) : (rowsL b n)[k]? = some (row b k) := by simp [rowsL, h]
theorem rowsL_take {b : Int} {n k : Nat} (h : k ≤ n) : (rowsL b n).take k = rowsL b k := by
  unfold rowsL
  rw [← List.map_take, List.take_range, Nat.min_eq_left h]
theorem cutD_take {xs : List D} {c : Nat} : cutD xs none (some (c : Int)) = xs.take c := by
  have e1 : HT.sIx xs.length 0 none = 0 := rfl
  have e2 : HT.sIx xs.length xs.length (some (c : Int)) = min c xs.length := by
    unfold HT.sIx
    simp
    try omega
  unfold cutD
  rw [e1, e2, List.drop_zero, Nat.sub_zero, List.take_eq_take_iff]
  omega
theorem atI_last {α : Type} {xs : List α} {x : α} : atI (xs ++ [x]) (-1) = some x := by
  unfold atI ixN
  rw [if_neg (by decide), if_pos (by simp; omega)]
  have e : (-1 + ((xs ++ [x]).length : Int)).toNat = xs.length := by simp; omega
  show (xs ++ [x])[(-1 + ((xs ++ [x]).length : Int)).toNat]? = some x
  rw [e]
  exact List.getElem?_concat_length
theorem box_look {xs : List D} : look (hp ++ [some (.lst xs)]) (.loc hp.length) = .lst xs := look_loc List.getElem?_concat_length
theorem box_seqv {xs : List D} : seqv (hp ++ [some (.lst xs)]) (.loc hp.length) = some xs := seqv_loc List.getElem?_concat_length
theorem box_set {o o' : Option Ob} : (hp ++ [o]).set hp.length o' = hp ++ [o'] := by
  rw [List.set_append_right _ _ (Nat.le_refl _)]; simp
theorem rows_sp {c : Nat} {b : Int} (hc : c < 100000) : Fs f__law_rows [.int c, .int b] hp fun d h => d = .lst ((rowsL b c).map .int) ∧ h = hp := by
  refine fs_cut (fs_run [some (.int c), some (.int b), none] rfl ?_)
  unfold m__law_rows
  repeat trivial
  refine while_inv (fun k e h => ∃ j : Nat, e = [some (.int c), some (.int b), some (.loc hp.length)] ∧ h = hp ++ [some (.lst ((rowsL b (j + 1)).map .int))] ∧ k = c - (j + 1) ∧ j + 1 ≤ max 1 c) ?_ _ (c - 1) _ _ (by omega) ⟨0, rfl, rfl, rfl, by omega⟩
  rintro k e h ⟨j, rfl, rfl, rfl, hj⟩
  have s0 : seqv (hp ++ [some (.lst ((rowsL b (j + 1)).map .int))]) (.loc hp.length) = some ((rowsL b (j + 1)).map .int) := box_seqv
  have a0 : atI ((rowsL b (j + 1)).map D.int) (-1) = some (.int (row b j)) := by rw [rowsL_succ, List.map_append]; exact atI_last
  repeat trivial
  refine ⟨fun c1 => ⟨c - (j + 1) - 1, ?_, ?_⟩, fun c1 => ?_⟩
  · have c1 := of_decide_eq_true c1
    simp at c1
    omega
  · have c1 := of_decide_eq_true c1
    have hlen : ((rowsL b (j + 1)).map D.int).length = j + 1 := by simp
    rw [hlen] at c1
    repeat trivial
    refine ⟨hp.length, _, rfl, List.getElem?_concat_length, ?_⟩
    repeat trivial
    · rw [hlen]; exact divOk_of (m := 60) (by omega) (by omega)
    repeat trivial
    refine ⟨_, List.getElem?_concat_length, ?_⟩
    refine g_append (by rw [hlen]; have : sizeLine = 2 ^ 24 := rfl; omega) ?_
    repeat trivial
    refine ⟨j + 1, rfl, ?_, by omega, by omega⟩
    rw [box_set, hlen, rowsL_succ (n := j + 1), List.map_append]
    have : row b (j + 1) = row b j + (row b j - 1) / (((j + 1 : Nat)) : Int) + b := by rw [row]; simp
    rw [this]; rfl
  · have c1 := of_decide_eq_false c1
    have hlen : ((rowsL b (j + 1)).map D.int).length = j + 1 := by simp
    rw [hlen] at c1
    repeat trivial
    refine ⟨c, rfl, ?_⟩
    refine g_sl_lst box_look ?_
    have e : cutD ((rowsL b (j + 1)).map D.int) none (some (c : Int)) = (rowsL b c).map D.int := by
      rw [cutD_take, ← List.map_take, rowsL_take (by omega)]
    rw [e]
    exact ⟨keepsB_app keepsB_refl (Nat.le_refl _), _, ice_lstI, rfl, List.take_left⟩
end
end Mi
-- Sp4
set_option Elab.async false
set_option linter.all false
set_option maxRecDepth 100000
set_option maxHeartbeats 2000000
namespace Mi
open PySem L2 PyProof.Rows PySem.Spec
local macro_rules | `(tactic| trivial) => `(tactic| first
  | with_reducible refine wp_op ?_
  | ((with_reducible refine wp_var ?_); refine gs_rfl ?_)
  | with_reducible refine wp_c ?_
  | with_reducible refine wp_cons ?_
  | with_reducible refine wp_nil ?_
  | with_reducible refine wp_cb ?_
  | with_reducible refine wp_cbn ?_
  | with_reducible refine wp_tst ?_
  | with_reducible refine wp_if ?_
  | with_reducible refine wp_un ?_
  | with_reducible refine wp_new ?_
  | with_reducible refine wp_box ?_
  | with_reducible refine wp_and ?_
  | with_reducible refine wp_or ?_
  | with_reducible refine wp_not ?_
  | with_reducible refine wp_sl ?_
  | with_reducible refine wp_call ?_
  | with_reducible refine wp_tup ?_
  | with_reducible refine wp_lst ?_
  | with_reducible refine wp_part ?_
  | with_reducible refine wp_mt ?_
  | with_reducible refine wp_iter ?_
  | with_reducible refine wp_range1 ?_
  | with_reducible refine wp_range2 ?_
  | with_reducible refine and_sz (by exact Nat.le_of_ble_eq_true rfl) ?_
  | with_reducible refine ws_seq ?_
  | with_reducible refine ws_set ?_
  | with_reducible refine ws_if ?_
  | with_reducible refine ws_ret ?_
  | with_reducible refine ws_drop ?_
  | with_reducible refine ws_nil ?_
  | with_reducible refine ws_par ?_
  | with_reducible refine ws_asg ?_
  | with_reducible refine tg_st ?_
  | with_reducible refine tg_n ?_
  | with_reducible refine g_add ?_
  | with_reducible refine g_sub ?_
  | with_reducible refine g_neg ?_
  | with_reducible refine g_lt ?_
  | with_reducible refine g_gt ?_
  | with_reducible refine g_le ?_
  | with_reducible refine g_ge ?_
  | with_reducible refine g_eq ?_
  | with_reducible refine g_ne ?_
  | with_reducible refine g_eqS ?_
  | with_reducible refine g_neS ?_
  | with_reducible refine g_tst ?_
  | with_reducible refine g_abs ?_
  | with_reducible refine g_int ?_
  | with_reducible refine g_intB ?_
  | with_reducible refine g_max2 ?_
  | with_reducible refine g_min2 ?_
  | with_reducible refine g_mul ?_ ?_
  | with_reducible refine g_div ?_ ?_
  | with_reducible refine g_mod ?_ ?_
  | with_reducible refine g_pow ?_ ?_
  | refine g_ix (by first | assumption | with_reducible rfl) (by first | assumption | rfl) ?_
  | refine g_len (by first | assumption | with_reducible rfl) ?_
  | with_reducible refine g_append ?_ ?_
  | dsimp only [List.set])
open Co
section
variable {h hp hp' h1 h2 : Hs} {d : D} {xs ds : List D} {n k : Nat} {Q : D → Hs → Prop} {g x t m T T' : Int} {body : MS} {env : Env}
theorem rngD_len {lo : Int} {n : Nat} : (rngD lo n).length = n := by simp [rngD]
theorem thresholds_sp {c : Nat} {b : Int} (hc : c < 100000) : Fs f_thresholds [.int c, .int b] hp fun d h => d = .tup ((rowsL b c).map .int) ∧ h = hp := by
  refine fs_cut (fs_run [some (.int c), some (.int b), none, none, none] rfl ?_)
  unfold m_thresholds
  repeat trivial
  refine ws_for ?_
  repeat trivial
  refine ⟨c, rfl, ⟨by omega, by omega⟩, ?_⟩
  rw [Int.toNat_natCast]
  refine ⟨fun i e h => ∃ e3 e4, e = [some (.int c), some (.int b), some (.loc hp.length), e3, e4] ∧ h = hp ++ [some (.lst ((rowsL b i).map .int))], ⟨none, none, rfl, rfl⟩, fun _ _ _ _ _ => trivial, ?_, ?_⟩
  · rintro i x e h hx ⟨e3, e4, rfl, rfl⟩
    obtain ⟨hi, rfl⟩ := rngD_get hx
    have s0 : seqv (hp ++ [some (.lst ((rowsL b i).map .int))]) (.loc hp.length) = some ((rowsL b i).map .int) := box_seqv
    refine tg_n ?_
    dsimp only [List.set]
    rw [Int.zero_add]
    refine ws_seq (ws_set (Wp.mono (Q := fun d h => h = hp ++ [some (.lst ((rowsL b i).map .int))] ∧ d = .int (if i = 0 then 0 else row b (i - 1))) ?_ ?_))
    · repeat trivial
      refine g_neIL (as := rowsL b i) (bs := []) ?_ ?_ ?_
      · exact box_look
      · rfl
      repeat trivial
      cases i with
      | zero =>
        refine ⟨fun c => ?_, fun c => ?_⟩
        · simp [rowsL] at c
        · repeat trivial
          all_goals exact ⟨rfl, rfl⟩
      | succ j =>
        refine ⟨fun c => ?_, fun c => ?_⟩
        · repeat trivial
          refine g_ix s0 (d := .int (row b j)) (by rw [rowsL_succ, List.map_append]; exact atI_last) ?_
          exact ⟨rfl, rfl⟩
        · exact absurd c (by rw [rowsL_succ]; simp)
    · rintro d h ⟨rfl, rfl⟩
      repeat trivial
      refine ⟨hp.length, _, rfl, List.getElem?_concat_length, ?_⟩
      refine wp_cons (Wp.mono (Q := fun d h => h = hp ++ [some (.lst ((rowsL b i).map .int))] ∧ d = .int (row b i)) ?_ ?_)
      · repeat trivial
        refine ⟨fun c => ?_, fun c => ?_⟩
        · have c := of_decide_eq_true c
          repeat trivial
          · exact divOk_of (m := 60) (by omega) (by omega)
          repeat trivial
          refine ⟨rfl, ?_⟩
          obtain ⟨j, rfl⟩ : ∃ j, i = j + 1 := ⟨i - 1, by omega⟩
          rw [if_neg (by omega), row]
          simp only [Nat.add_sub_cancel, Int.natCast_add, Int.natCast_one, D.int.injEq]
          omega
        · have c := of_decide_eq_false c
          repeat trivial
          refine ⟨rfl, ?_⟩
          have : i = 0 := by omega
          subst this
          rfl
      · rintro d h ⟨rfl, rfl⟩
        repeat trivial
        refine ⟨_, List.getElem?_concat_length, ?_⟩
        refine g_append (by simp; have : sizeLine = 2 ^ 24 := rfl; omega) ?_
        repeat trivial
        exact ⟨_, _, rfl, by rw [box_set, rowsL_succ, List.map_append]; rfl⟩
  · rintro e h ⟨e3, e4, rfl, rfl⟩
    rw [rngD_len]
    repeat trivial
    refine g_tup box_seqv ?_
    exact ⟨keepsB_app keepsB_refl (Nat.le_refl _), _, ice_tupI, rfl, List.take_left⟩
theorem mapIdx_range {α β : Type} {l : List α} {f : Nat → β} : l.mapIdx (fun i _ => f i) = (List.range l.length).map f := by
  apply List.ext_getElem?
  intro i
  by_cases hi : i < l.length
  · simp [hi]
  · simp [hi]
theorem row_bd {b : Int} (hb : 1 ≤ b) (k : Nat) : 1 ≤ row b k ∧ row b k ≤ b * 3 ^ k := by
  induction k with
  | zero => exact ⟨hb, by simp [row]⟩
  | succ k ih =>
    have h1 : (row b k - 1) / ((k : Int) + 1) ≤ row b k - 1 := Int.ediv_le_self _ (by omega)
    have h2 : 0 ≤ (row b k - 1) / ((k : Int) + 1) := Int.ediv_nonneg (by omega) (by omega)
    have h3 : b * 1 ≤ b * 3 ^ k := Int.mul_le_mul_of_nonneg_left (by have : (0 : Int) < 3 ^ k := Int.pow_pos (by decide); omega) (by omega)
    have h4 : b * 3 ^ (k + 1) = 3 * (b * 3 ^ k) := by rw [Int.pow_succ, Int.mul_comm (3 ^ k) 3, ← Int.mul_assoc, Int.mul_comm b 3, Int.mul_assoc]
    rw [row, h4]
    omega
end
end Mi
-- Sp5
set_option Elab.async false
set_option linter.all false
set_option maxRecDepth 100000
set_option maxHeartbeats 2000000
namespace Mi
open PySem L2 PyProof.Rows PySem.Spec
local macro_rules | `(tactic| trivial) => `(tactic| first
  | with_reducible refine wp_op ?_
  | ((with_reducible refine wp_var ?_); refine gs_rfl ?_)
  | with_reducible refine wp_c ?_
  | with_reducible refine wp_cons ?_
  | with_reducible refine wp_nil ?_
  | with_reducible refine wp_cb ?_
  | with_reducible refine wp_cbn ?_
  | with_reducible refine wp_tst ?_
  | with_reducible refine wp_if ?_
  | with_reducible refine wp_un ?_
  | with_reducible refine wp_new ?_
  | with_reducible refine wp_box ?_
  | with_reducible refine wp_and ?_
  | with_reducible refine wp_or ?_
  | with_reducible refine wp_not ?_
  | with_reducible refine wp_sl ?_
  | with_reducible refine wp_call ?_
  | with_reducible refine wp_tup ?_
  | with_reducible refine wp_lst ?_
  | with_reducible refine wp_part ?_
  | with_reducible refine wp_mt ?_
  | with_reducible refine wp_iter ?_
  | with_reducible refine wp_range1 ?_
  | with_reducible refine wp_range2 ?_
  | with_reducible refine and_sz (by exact Nat.le_of_ble_eq_true rfl) ?_
  | with_reducible refine ws_seq ?_
  | with_reducible refine ws_set ?_
  | with_reducible refine ws_if ?_
  | with_reducible refine ws_ret ?_
  | with_reducible refine ws_drop ?_
  | with_reducible refine ws_nil ?_
  | with_reducible refine ws_par ?_
  | with_reducible refine ws_asg ?_
  | with_reducible refine tg_st ?_
  | with_reducible refine tg_n ?_
  | with_reducible refine g_add ?_
  | with_reducible refine g_sub ?_
  | with_reducible refine g_neg ?_
  | with_reducible refine g_lt ?_
  | with_reducible refine g_gt ?_
  | with_reducible refine g_le ?_
  | with_reducible refine g_ge ?_
  | with_reducible refine g_eq ?_
  | with_reducible refine g_ne ?_
  | with_reducible refine g_eqS ?_
  | with_reducible refine g_neS ?_
  | with_reducible refine g_tst ?_
  | with_reducible refine g_abs ?_
  | with_reducible refine g_int ?_
  | with_reducible refine g_intB ?_
  | with_reducible refine g_max2 ?_
  | with_reducible refine g_min2 ?_
  | with_reducible refine g_mul ?_ ?_
  | with_reducible refine g_div ?_ ?_
  | with_reducible refine g_mod ?_ ?_
  | with_reducible refine g_pow ?_ ?_
  | refine g_ix (by first | assumption | with_reducible rfl) (by first | assumption | rfl) ?_
  | refine g_len (by first | assumption | with_reducible rfl) ?_
  | with_reducible refine g_append ?_ ?_
  | dsimp only [List.set])
open Co
section
variable {h hp hp' h1 h2 : Hs} {d : D} {xs ds : List D} {n k : Nat} {Q : D → Hs → Prop} {g x t m T T' : Int} {body : MS} {env : Env} {QS : Src → Hs → Prop} {r : M (List D)}
theorem wp_enum1 (q : Wp r env hp fun ds h => ∃ d xs, ds = [d] ∧ seqv h d = some xs ∧ QS ⟨enumD 0 xs, keepOf h d⟩ h) : Wp (mEnum1 r) env hp QS :=
  Wp.bnd (q.mono fun ds h q => by
    obtain ⟨d, xs, rfl, e, q⟩ := q
    exact ⟨_, _, by dsimp only; rw [e], q⟩)
theorem wp_zip (q : Wp r env hp fun ds h => ∃ d d2 xs ys, ds = [d, d2] ∧ seqv h d = some xs ∧ seqv h d2 = some ys ∧ QS ⟨zipD xs ys, fun h' => keepOf h d h' ∧ keepOf h d2 h'⟩ h) : Wp (mZip r) env hp QS :=
  Wp.bnd (q.mono fun ds h q => by
    obtain ⟨d, d2, xs, ys, rfl, e, e2, q⟩ := q
    exact ⟨_, _, by dsimp only; rw [e, e2], q⟩)
theorem enumD_len {k : Int} {xs : List D} : (enumD k xs).length = xs.length := by simp [enumD]
theorem enumD_get {k : Int} {xs : List D} {i : Nat} {d : D} (h : (enumD k xs)[i]? = some d) : ∃ x, xs[i]? = some x ∧ d = .itm [.int (k + (i : Int)), x] := by
  unfold enumD at h
  rw [List.getElem?_mapIdx] at h
  cases e : xs[i]? with
  | none => rw [e] at h; cases h
  | some x => rw [e] at h; cases h; exact ⟨x, rfl, rfl⟩
theorem zipD_len {xs ys : List D} : (zipD xs ys).length = min xs.length ys.length := by simp [zipD]
theorem zipD_get {xs ys : List D} {i : Nat} {d : D} (h : (zipD xs ys)[i]? = some d) : ∃ x y, xs[i]? = some x ∧ ys[i]? = some y ∧ d = .itm [x, y] := by
  unfold zipD at h
  rw [List.getElem?_zipWith] at h
  split at h <;> cases h
  rename_i x y e1 e2
  exact ⟨x, y, e1, e2, rfl⟩
theorem tg_tup2 {g1 g2 : MG} {Q : Env → Hs → Prop} {x y : D} (q : Tg g1 x env hp fun e h => Tg g2 y e h Q) : Tg (gT 2 (gsCons g1 (gsCons g2 gsNil))) (.itm [x, y]) env hp Q := by
  refine tg_ti rfl rfl (tgs_cons ?_)
  obtain ⟨e, h, z, e2, h2, z2, q⟩ := q
  exact ⟨e, h, z, tgs_cons ⟨e2, h2, z2, tgs_nil q⟩⟩
/-! ### threshold, least_equal -/
end
end Mi
-- Sp6
set_option Elab.async false
set_option linter.all false
set_option maxRecDepth 100000
set_option maxHeartbeats 2000000
namespace Mi
open PySem L2 PyProof.Rows PySem.Spec
local macro_rules | `(tactic| trivial) => `(tactic| first
  | with_reducible refine wp_op ?_
  | ((with_reducible refine wp_var ?_); refine gs_rfl ?_)
  | with_reducible refine wp_c ?_
  | with_reducible refine wp_cons ?_
  | with_reducible refine wp_nil ?_
  | with_reducible refine wp_cb ?_
  | with_reducible refine wp_cbn ?_
  | with_reducible refine wp_tst ?_
  | with_reducible refine wp_if ?_
  | with_reducible refine wp_un ?_
  | with_reducible refine wp_new ?_
  | with_reducible refine wp_box ?_
  | with_reducible refine wp_and ?_
  | with_reducible refine wp_or ?_
  | with_reducible refine wp_not ?_
  | with_reducible refine wp_sl ?_
  | with_reducible refine wp_call ?_
  | with_reducible refine wp_tup ?_
  | with_reducible refine wp_lst ?_
  | with_reducible refine wp_part ?_
  | with_reducible refine wp_mt ?_
  | with_reducible refine wp_iter ?_
  | with_reducible refine wp_range1 ?_
  | with_reducible refine wp_range2 ?_
  | with_reducible refine and_sz (by exact Nat.le_of_ble_eq_true rfl) ?_
  | with_reducible refine ws_seq ?_
  | with_reducible refine ws_set ?_
  | with_reducible refine ws_if ?_
  | with_reducible refine ws_ret ?_
  | with_reducible refine ws_drop ?_
  | with_reducible refine ws_nil ?_
  | with_reducible refine ws_par ?_
  | with_reducible refine ws_asg ?_
  | with_reducible refine tg_st ?_
  | with_reducible refine tg_n ?_
  | with_reducible refine g_add ?_
  | with_reducible refine g_sub ?_
  | with_reducible refine g_neg ?_
  | with_reducible refine g_lt ?_
  | with_reducible refine g_gt ?_
  | with_reducible refine g_le ?_
  | with_reducible refine g_ge ?_
  | with_reducible refine g_eq ?_
  | with_reducible refine g_ne ?_
  | with_reducible refine g_eqS ?_
  | with_reducible refine g_neS ?_
  | with_reducible refine g_tst ?_
  | with_reducible refine g_abs ?_
  | with_reducible refine g_int ?_
  | with_reducible refine g_intB ?_
  | with_reducible refine g_max2 ?_
  | with_reducible refine g_min2 ?_
  | with_reducible refine g_mul ?_ ?_
  | with_reducible refine g_div ?_ ?_
  | with_reducible refine g_mod ?_ ?_
  | with_reducible refine g_pow ?_ ?_
  | refine g_ix (by first | assumption | with_reducible rfl) (by first | assumption | rfl) ?_
  | refine g_len (by first | assumption | with_reducible rfl) ?_
  | with_reducible refine g_append ?_ ?_
  | dsimp only [List.set])
open Co
end Mi
-- Sp7
set_option Elab.async false
set_option linter.all false
set_option maxRecDepth 100000
set_option maxHeartbeats 2000000
namespace Mi
open PySem L2 PyProof.Rows PySem.Spec
local macro_rules | `(tactic| trivial) => `(tactic| first
  | with_reducible refine wp_op ?_
  | ((with_reducible refine wp_var ?_); refine gs_rfl ?_)
  | with_reducible refine wp_c ?_
  | with_reducible refine wp_cons ?_
  | with_reducible refine wp_nil ?_
  | with_reducible refine wp_cb ?_
  | with_reducible refine wp_cbn ?_
  | with_reducible refine wp_tst ?_
  | with_reducible refine wp_if ?_
  | with_reducible refine wp_un ?_
  | with_reducible refine wp_new ?_
  | with_reducible refine wp_box ?_
  | with_reducible refine wp_and ?_
  | with_reducible refine wp_or ?_
  | with_reducible refine wp_not ?_
  | with_reducible refine wp_sl ?_
  | with_reducible refine wp_call ?_
  | with_reducible refine wp_tup ?_
  | with_reducible refine wp_lst ?_
  | with_reducible refine wp_part ?_
  | with_reducible refine wp_mt ?_
  | with_reducible refine wp_iter ?_
  | with_reducible refine wp_range1 ?_
  | with_reducible refine wp_range2 ?_
  | with_reducible refine and_sz (by exact Nat.le_of_ble_eq_true rfl) ?_
  | with_reducible refine ws_seq ?_
  | with_reducible refine ws_set ?_
  | with_reducible refine ws_if ?_
  | with_reducible refine ws_ret ?_
  | with_reducible refine ws_drop ?_
  | with_reducible refine ws_nil ?_
  | with_reducible refine ws_par ?_
  | with_reducible refine ws_asg ?_
  | with_reducible refine tg_st ?_
  | with_reducible refine tg_n ?_
  | with_reducible refine g_add ?_
  | with_reducible refine g_sub ?_
  | with_reducible refine g_neg ?_
  | with_reducible refine g_lt ?_
  | with_reducible refine g_gt ?_
  | with_reducible refine g_le ?_
  | with_reducible refine g_ge ?_
  | with_reducible refine g_eq ?_
  | with_reducible refine g_ne ?_
  | with_reducible refine g_eqS ?_
  | with_reducible refine g_neS ?_
  | with_reducible refine g_tst ?_
  | with_reducible refine g_abs ?_
  | with_reducible refine g_int ?_
  | with_reducible refine g_intB ?_
  | with_reducible refine g_max2 ?_
  | with_reducible refine g_min2 ?_
  | with_reducible refine g_mul ?_ ?_
  | with_reducible refine g_div ?_ ?_
  | with_reducible refine g_mod ?_ ?_
  | with_reducible refine g_pow ?_ ?_
  | refine g_ix (by first | assumption | with_reducible rfl) (by first | assumption | rfl) ?_
  | refine g_len (by first | assumption | with_reducible rfl) ?_
  | with_reducible refine g_append ?_ ?_
  | dsimp only [List.set])
open Co
section
variable {h hp hp' h1 h2 : Hs} {d x y : D} {xs ds : List D} {n k : Nat} {Q : D → Hs → Prop} {g t m T T' b : Int} {body : MS} {env : Env} {QS : Src → Hs → Prop} {r : M (List D)} {ns : List Int}
theorem wp_enumZ (q : Wp r env hp fun ds h => ∃ d d2 xs ys, ds = [d, d2] ∧ seqv h d = some xs ∧ seqv h d2 = some ys ∧ QS ⟨enumD 0 (zipD xs ys), fun h' => keepOf h d h' ∧ keepOf h d2 h'⟩ h) : Wp (mEnumZ r) env hp QS :=
  Wp.bnd (q.mono fun ds h q => by
    obtain ⟨d, d2, xs, ys, rfl, e, e2, q⟩ := q
    exact ⟨_, _, by dsimp only; rw [e, e2], q⟩)
theorem ws_aug {i : Nat} {f : Int → Int → Int} {a : Int} {mm : M D} {P : Po} (e : env[i]? = some (some (.int a))) (q : Wp mm env hp fun d h => ∃ z, d = .int z ∧ P.nx (env.set i (some (.int (f a z)))) h) : Ws (sAug i f mm) env hp P := by
  have z : Ws (sE mm (fun d env hp => match d with
    | .int b => some (.nx, env.set i (some (.int (f a b))), hp)
    | _ => none)) env hp P := ws_E (q.mono fun d h q => by
      obtain ⟨z, rfl, q⟩ := q
      exact ⟨.nx, _, _, rfl, q⟩)
  obtain ⟨fl, e2, h2, z1, z2⟩ := z
  exact ⟨fl, e2, h2, by unfold sAug; rw [e]; exact z1, z2⟩
/-- ints in a list or a tuple that does not change -/
def Ints (x : D) (ns : List Int) : Prop := x = .lst (ns.map .int) ∨ x = .tup (ns.map .int)
theorem Ints.seqv (h : Ints x ns) (hp : Hs) : seqv hp x = some (ns.map .int) := by rcases h with rfl | rfl <;> rfl
theorem Ints.keep (h : Ints x ns) (hp hp' : Hs) : keepOf hp x hp' := by rcases h with rfl | rfl <;> trivial
theorem sortI_len : (sortI ns).length = ns.length := (sortI_perm ns).length_eq
/-- the sum of the i + 1 least -/
def psum (ns : List Int) (i : Nat) : Int := ((sortI ns).take (i + 1)).sum
theorem psum_next {i : Nat} {z : Int} (h : (sortI ns)[i]? = some z) : psum ns i = ((sortI ns).take i).sum + z := by
  unfold psum
  rw [List.take_succ, h, List.sum_append]
  simp
def psums (ns : List Int) (n : Nat) : List Int := (List.range n).map (psum ns)
theorem psums_succ {i : Nat} : psums ns (i + 1) = psums ns i ++ [psum ns i] := by simp [psums, List.range_succ]
@[simp] theorem psums_len : (psums ns k).length = k := by simp [psums]
theorem psums_get {i : Nat} (h : i < k) : (psums ns k)[i]? = some (psum ns i) := by simp [psums, h]
theorem sums_sp (hx : Ints x ns) (hl : ns.length < 100000) : Fs f_sums [x] hp fun d h => d = .tup ((psums ns ns.length).map .int) ∧ h = hp := by
  refine fs_cut (fs_run [some x, none, none, none] rfl ?_)
  unfold m_sums
  have sl : sizeLine = 2 ^ 24 := rfl
  repeat trivial
  refine ⟨_, _, rfl, ?_⟩
  repeat trivial
  refine ws_for ?_
  repeat trivial
  refine g_sorted (ns := ns) (hx.seqv _) ?_
  refine ⟨_, rfl, ?_⟩
  refine ⟨fun i e h => ∃ e3, e = [some x, some (.loc hp.length), some (.int ((sortI ns).take i).sum), e3] ∧ h = hp ++ [some (.lst ((psums ns i).map .int))], ⟨none, rfl, rfl⟩, fun _ _ _ _ _ => trivial, ?_, ?_⟩
  · rintro i z e h hz ⟨e3, rfl, rfl⟩
    rw [List.getElem?_map] at hz
    cases ez : (sortI ns)[i]? with
    | none => rw [ez] at hz; cases hz
    | some z =>
      rw [ez] at hz; cases hz
      have hi : i < ns.length := by have := (List.getElem?_eq_some_iff.mp ez).1; rw [sortI_len] at this; exact this
      refine tg_n ?_
      refine ws_seq (ws_aug rfl ?_)
      repeat trivial
      refine ⟨_, rfl, ?_⟩
      repeat trivial
      refine ⟨hp.length, _, rfl, List.getElem?_concat_length, ?_⟩
      repeat trivial
      refine ⟨_, List.getElem?_concat_length, ?_⟩
      refine g_append (by simp; omega) ?_
      repeat trivial
      exact ⟨some (.int z), by rw [← psum_next ez]; rfl, by rw [box_set, psums_succ, psum_next ez, List.map_append]; rfl⟩
  · rintro e h ⟨e3, rfl, rfl⟩
    rw [List.length_map, sortI_len]
    repeat trivial
    refine g_tup box_seqv ?_
    exact ⟨keepsB_app keepsB_refl (Nat.le_refl _), _, ice_tupI, rfl, List.take_left⟩
/-- the first place whose sum is below the threshold -/
def gapI (ns : List Int) (b : Int) : Option Nat := (List.range ns.length).find? fun i => decide (psum ns i < row b i)
theorem find_first {p : Nat → Bool} {n i : Nat} (hi : i < n) (h0 : ∀ j, j < i → p j = false) (h1 : p i = true) : (List.range n).find? p = some i := by
  rw [List.find?_range_eq_some]
  exact ⟨h1, by simpa using hi, fun j hj => by rw [h0 j hj]; rfl⟩
theorem find_none {p : Nat → Bool} {n : Nat} (h0 : ∀ j, j < n → p j = false) : (List.range n).find? p = none := by
  rw [List.find?_eq_none]
  intro j hj
  rw [h0 j (by simpa using hj)]; exact Bool.false_ne_true
def gapD (ns : List Int) (b : Int) : D := match gapI ns b with
  | none => .non
  | some i => .tup [.int ((i : Int) + 1), .int (psum ns i), .int (row b i)]
theorem zip_gap {i : Nat} {x : D} {k : Nat} (hx : (enumD 0 (zipD ((psums ns k).map .int) ((rowsL b k).map .int)))[i]? = some x) : i < k ∧ x = .itm [.int (i : Int), .itm [.int (psum ns i), .int (row b i)]] := by
  obtain ⟨z, hz, rfl⟩ := enumD_get hx
  obtain ⟨x1, x2, e1, e2, rfl⟩ := zipD_get hz
  have hi : i < k := by simpa using (List.getElem?_eq_some_iff.mp e1).1
  rw [List.getElem?_map, psums_get hi] at e1
  rw [List.getElem?_map, rowsL_get hi] at e2
  cases e1
  cases e2
  exact ⟨hi, by rw [Int.zero_add]⟩
theorem ice_gap {i j k : Int} {bn : Option Nat} : ice n bn hp 8 (.tup [.int i, .int j, .int k]) = some (.tup [.int i, .int j, .int k]) := ice_tupI (ns := [i, j, k])
theorem gap_sp (hx : Ints x ns) (hl : ns.length < 100000) : Fs f_gap [x, .int b] hp fun d h => d = gapD ns b ∧ h = hp := by
  refine fs_cut (fs_run [some x, some (.int b), none, none, none] rfl ?_)
  unfold m_gap
  have sl : sizeLine = 2 ^ 24 := rfl
  repeat trivial
  refine ws_for (wp_enumZ ?_)
  repeat trivial
  refine ⟨rfl, (sums_sp hx hl).mono ?_⟩
  rintro d h ⟨rfl, rfl⟩
  repeat trivial
  refine g_len (hx.seqv _) ?_
  repeat trivial
  rw [List.length_map]
  refine ⟨rfl, (thresholds_sp hl).mono ?_⟩
  rintro d h ⟨rfl, rfl⟩
  refine wp_nil ⟨_, _, _, _, rfl, rfl, rfl, ?_⟩
  refine ⟨fun i e h' => ∃ e2 e3 e4, e = [some x, some (.int b), e2, e3, e4] ∧ h' = h ∧ ∀ j, j < i → decide (psum ns j < row b j) = false, ⟨_, _, _, rfl, rfl, fun j hj => absurd hj (Nat.not_lt_zero j)⟩, fun _ _ _ _ _ => ⟨trivial, trivial⟩, ?_, ?_⟩
  · rintro i z e h' hz ⟨e2, e3, e4, rfl, rfl, hj⟩
    obtain ⟨hi, rfl⟩ := zip_gap hz
    refine tg_tup2 (tg_n (tg_tup2 (tg_n (tg_n ?_))))
    dsimp only [List.set]
    repeat trivial
    refine ⟨fun c => ?_, fun c => ?_⟩
    · repeat trivial
      refine ⟨keepsB_refl, _, ice_gap, ?_, List.take_of_length_le (Nat.le_refl _)⟩
      unfold gapD gapI
      rw [find_first hi hj c]
    · repeat trivial
      refine ⟨_, _, _, rfl, rfl, fun j hj2 => ?_⟩
      rcases Nat.lt_succ_iff_lt_or_eq.mp hj2 with q | rfl
      · exact hj j q
      · exact c
  · rintro e h' ⟨e2, e3, e4, rfl, rfl, hj⟩
    have hlen : (enumD 0 (zipD ((psums ns ns.length).map .int) ((rowsL b ns.length).map .int))).length = ns.length := by rw [enumD_len, zipD_len]; simp
    rw [hlen] at hj
    repeat trivial
    refine ⟨keepsB_refl, _, rfl, ?_, List.take_of_length_le (Nat.le_refl _)⟩
    unfold gapD gapI
    rw [find_none hj]
theorem is_safe_sp (hx : Ints x ns) (hl : ns.length < 100000) : Fs f_is_safe [x, .int b] hp fun d h => d = .bl (gapI ns b).isNone ∧ h = hp := by
  refine fs_cut (fs_run [some x, some (.int b)] rfl ?_)
  unfold m_is_safe
  repeat trivial
  refine ⟨rfl, (gap_sp hx hl).mono ?_⟩
  rintro d h ⟨rfl, rfl⟩
  refine wp_c ⟨_, rfl, ?_⟩
  refine ⟨keepsB_refl, _, rfl, ?_, List.take_of_length_le (Nat.le_refl _)⟩
  unfold gapD isNon
  cases gapI ns b <;> rfl
def gapN (ns : List Int) (b : Int) : D := match gapI ns b with
  | none => .non
  | some i => .int ((i : Int) + 1)
theorem zip_lgap {i : Nat} {x : D} (hx : (enumD 0 (zipD ((sortI ns).map .int) ((rowsL b ns.length).map .int)))[i]? = some x) : ∃ z, (sortI ns)[i]? = some z ∧ i < ns.length ∧ x = .itm [.int (i : Int), .itm [.int z, .int (row b i)]] := by
  obtain ⟨z, hz, rfl⟩ := enumD_get hx
  obtain ⟨x1, x2, e1, e2, rfl⟩ := zipD_get hz
  have hi : i < ns.length := by simpa using (List.getElem?_eq_some_iff.mp e2).1
  rw [List.getElem?_map] at e1
  rw [List.getElem?_map, rowsL_get hi] at e2
  cases e2
  cases ez : (sortI ns)[i]? with
  | none => rw [ez] at e1; cases e1
  | some z => rw [ez] at e1; cases e1; exact ⟨z, rfl, hi, by rw [Int.zero_add]⟩
end
end Mi
-- Sp8
set_option Elab.async false
set_option linter.all false
set_option maxRecDepth 100000
set_option maxHeartbeats 2000000
namespace Mi
open PySem L2 PyProof.Rows PySem.Spec
local macro_rules | `(tactic| trivial) => `(tactic| first
  | with_reducible refine wp_op ?_
  | ((with_reducible refine wp_var ?_); refine gs_rfl ?_)
  | with_reducible refine wp_c ?_
  | with_reducible refine wp_cons ?_
  | with_reducible refine wp_nil ?_
  | with_reducible refine wp_cb ?_
  | with_reducible refine wp_cbn ?_
  | with_reducible refine wp_tst ?_
  | with_reducible refine wp_if ?_
  | with_reducible refine wp_un ?_
  | with_reducible refine wp_new ?_
  | with_reducible refine wp_box ?_
  | with_reducible refine wp_and ?_
  | with_reducible refine wp_or ?_
  | with_reducible refine wp_not ?_
  | with_reducible refine wp_sl ?_
  | with_reducible refine wp_call ?_
  | with_reducible refine wp_tup ?_
  | with_reducible refine wp_lst ?_
  | with_reducible refine wp_part ?_
  | with_reducible refine wp_mt ?_
  | with_reducible refine wp_iter ?_
  | with_reducible refine wp_range1 ?_
  | with_reducible refine wp_range2 ?_
  | with_reducible refine and_sz (by exact Nat.le_of_ble_eq_true rfl) ?_
  | with_reducible refine ws_seq ?_
  | with_reducible refine ws_set ?_
  | with_reducible refine ws_if ?_
  | with_reducible refine ws_ret ?_
  | with_reducible refine ws_drop ?_
  | with_reducible refine ws_nil ?_
  | with_reducible refine ws_par ?_
  | with_reducible refine ws_asg ?_
  | with_reducible refine tg_st ?_
  | with_reducible refine tg_n ?_
  | with_reducible refine g_add ?_
  | with_reducible refine g_sub ?_
  | with_reducible refine g_neg ?_
  | with_reducible refine g_lt ?_
  | with_reducible refine g_gt ?_
  | with_reducible refine g_le ?_
  | with_reducible refine g_ge ?_
  | with_reducible refine g_eq ?_
  | with_reducible refine g_ne ?_
  | with_reducible refine g_eqS ?_
  | with_reducible refine g_neS ?_
  | with_reducible refine g_tst ?_
  | with_reducible refine g_abs ?_
  | with_reducible refine g_int ?_
  | with_reducible refine g_intB ?_
  | with_reducible refine g_max2 ?_
  | with_reducible refine g_min2 ?_
  | with_reducible refine g_mul ?_ ?_
  | with_reducible refine g_div ?_ ?_
  | with_reducible refine g_mod ?_ ?_
  | with_reducible refine g_pow ?_ ?_
  | refine g_ix (by first | assumption | with_reducible rfl) (by first | assumption | rfl) ?_
  | refine g_len (by first | assumption | with_reducible rfl) ?_
  | with_reducible refine g_append ?_ ?_
  | dsimp only [List.set])
open Co
section
variable {h hp hp' h1 h2 : Hs} {d x y : D} {xs ds : List D} {n k : Nat} {Q : D → Hs → Prop} {g t m T T' b : Int} {body : MS} {env : Env} {QS : Src → Hs → Prop} {r : M (List D)} {ns : List Int}
theorem erase_perm {α : Type} : ∀ {l : List α} {k : Nat} (hk : k < l.length), (l[k] :: l.eraseIdx k).Perm l
  | a :: l, 0, _ => List.Perm.refl _
  | a :: l, k + 1, h => by
    have hk : k < l.length := by simpa using h
    have ih := erase_perm (l := l) (k := k) hk
    simp only [List.getElem_cons_succ, List.eraseIdx_cons_succ]
    exact (List.Perm.swap a l[k] (l.eraseIdx k)).trans (List.Perm.cons a ih)
theorem erase_map {α β : Type} (f : α → β) : ∀ (l : List α) (k : Nat), (l.map f).eraseIdx k = (l.eraseIdx k).map f
  | [], k => by simp
  | a :: l, 0 => rfl
  | a :: l, k + 1 => by simp only [List.map_cons, List.eraseIdx_cons_succ, erase_map f l k]
theorem g_popAt {Q : D × List D → Prop} {i : Int} {k : Nat} (hi : i = (k : Int)) (hk : xs[k]? = some d) (hz : k < 2 ^ 60) (q : Q (d, xs.eraseIdx k)) : Gt (gPopAt h xs [.int i]) Q := by
  have hl := (List.getElem?_eq_some_iff.mp hk).1
  refine ⟨_, ?_, q⟩
  unfold gPopAt
  dsimp only
  rw [if_pos ⟨by omega, by omega⟩]
  have e : seqIndex? i xs.length = some k := (ixN_seq (by rw [hi]; exact ixN_nat hl)).1
  rw [e]
  dsimp only
  rw [hk]
theorem seqv_at {n : Nat} (e : h[n]? = some (some (.lst xs))) : seqv h (.loc n) = some xs := seqv_loc e
/-- two more boxes than the caller's, the hand's changed -/
structure Two (n : Nat) (T : Int) (hp h : Hs) (l f : List Int) : Prop where
  len : h.length = hp.length + 2
  a : h[hp.length]? = some (some (.lst (l.map .int)))
  b : h[hp.length + 1]? = some (some (.lst (f.map .int)))
  H : Hn h n T
  eq : ∀ i, i < hp.length → i ≠ n → h[i]? = hp[i]?
theorem mixed_sp (hn : n < hp.length) (H : Hn hp n T) (hT : T < 2 ^ 49) (hx : Ints x ns) (hl : ns.length < 99000) : Fs f__law_mixed [.loc n, x] hp fun d h => d = .loc hp.length ∧ ∃ ms : List Int, ms.Perm ns ∧ h[hp.length]? = some (some (.lst (ms.map .int))) ∧ h.length = hp.length + 1 ∧ Hn h n (T + ns.length) ∧ ∀ i, i < hp.length → i ≠ n → h[i]? = hp[i]? := by
  refine fs_box (fs_run [some (.loc n), some x, none, none] rfl ?_)
  unfold m__law_mixed
  have sl : sizeLine = 2 ^ 24 := rfl
  repeat trivial
  refine g_list (hx.seqv _) ?_
  repeat trivial
  refine ⟨_, _, rfl, ?_⟩
  repeat trivial
  refine while_inv (fun k e h => ∃ l f : List Int, e = [some (.loc n), some x, some (.loc hp.length), some (.loc (hp.length + 1))] ∧ Two n (T + f.length) hp h l f ∧ (f ++ l).Perm ns ∧ k = l.length) ?_ _ ns.length _ _ (by omega) ⟨ns, [], by simp, ⟨by simp, by simp, by simp, ((H.app).app).mono (by simp), fun i h1 h2 => by
    rw [List.getElem?_append_left (by simp; omega), List.getElem?_append_left h1]⟩, by simp, rfl⟩
  rintro k e h ⟨l, f, rfl, Tw, P, rfl⟩
  have pl := P.length_eq
  rw [List.length_append] at pl
  repeat trivial
  refine g_neIL (as := l) (bs := []) (look_loc Tw.a) rfl ?_
  repeat trivial
  refine ⟨fun c => ?_, fun c => ?_⟩
  · have hne : l ≠ [] := by simpa using c
    have hpos : 0 < l.length := List.length_pos_iff.mpr hne
    refine ⟨l.length - 1, by omega, ?_⟩
    repeat trivial
    refine ⟨hp.length + 1, _, rfl, Tw.b, ?_⟩
    repeat trivial
    refine ⟨hp.length, _, rfl, Tw.a, ?_⟩
    repeat trivial
    refine g_len (seqv_at Tw.a) ?_
    repeat trivial
    rw [List.length_map]
    refine ⟨rfl, (take_sp Tw.H (by omega) (by omega) (by omega)).mono ?_⟩
    rintro d h2 ⟨r, rfl, r0, r1, H2, S2⟩
    obtain ⟨k, rfl⟩ := Int.eq_ofNat_of_zero_le r0
    have hk : k < l.length := by omega
    have a2 : h2[hp.length]? = some (some (.lst (l.map .int))) := by rw [S2.eq _ (by omega)]; exact Tw.a
    have b2 : h2[hp.length + 1]? = some (some (.lst (f.map .int))) := by rw [S2.eq _ (by omega)]; exact Tw.b
    refine wp_nil ⟨_, a2, g_popAt rfl (d := .int l[k]) (by rw [List.getElem?_map, List.getElem?_eq_getElem hk]; rfl) (by omega) ?_⟩
    refine wp_nil ⟨f.map .int, by rw [List.getElem?_set_ne (by omega)]; exact b2, ?_⟩
    refine g_append (by simp; omega) ?_
    repeat trivial
    have el : (l.map D.int).eraseIdx k = (l.eraseIdx k).map .int := erase_map _ _ _
    refine ⟨l.eraseIdx k, f ++ [l[k]], rfl, ⟨by simp [S2.len, Tw.len], ?_, ?_, ?_, fun i h1 hne => ?_⟩, ?_, ?_⟩
    · rw [List.getElem?_set_ne (by omega), List.getElem?_set_self (by rw [S2.len, Tw.len]; omega), el]
    · rw [List.getElem?_set_self (by rw [List.length_set, S2.len, Tw.len]; omega), List.map_append]; rfl
    · refine ((H2.set (by omega)).set (by omega)).mono ?_
      simp; omega
    · rw [List.getElem?_set_ne (by omega), List.getElem?_set_ne (by omega), S2.eq _ hne]
      exact Tw.eq i h1 hne
    · refine List.Perm.trans ?_ P
      rw [List.append_assoc]
      exact (List.Perm.append_left f (erase_perm hk))
    · rw [List.length_eraseIdx, if_pos hk]
  · have hnil : l = [] := by simpa using c
    subst hnil
    repeat trivial
    have k2 : keepsB hp.length hp h := fun i o hi e => by
      by_cases hin : i = n
      · subst hin
        obtain ⟨g, x, t, Hh, _⟩ := Tw.H
        rw [Hh.at_] at e
        cases e
        exact .inr rfl
      · rw [Tw.eq i hi hin] at e; exact .inl e
    have tl : (h.take hp.length).length = hp.length := by rw [List.length_take, Tw.len]; omega
    refine ⟨k2, _, _, _, rfl, Nat.le_succ _, Tw.b, allD_int (k := 7) f, rfl, f, by simpa using P, ?_, by simp [tl], ?_, fun i hi hne => ?_⟩
    · rw [List.getElem?_append_right (by omega), tl]; simp
    · refine ((Tw.H.take hn).app).mono ?_
      simp at pl
      omega
    · rw [List.getElem?_append_left (by omega), List.getElem?_take_of_lt hi]
      exact Tw.eq i hi hne
end
end Mi
-- Sp9
set_option Elab.async false
set_option linter.all false
set_option maxRecDepth 100000
set_option maxHeartbeats 2000000
namespace Mi
open PySem L2 PyProof.Rows PySem.Spec
local macro_rules | `(tactic| trivial) => `(tactic| first
  | with_reducible refine wp_op ?_
  | ((with_reducible refine wp_var ?_); refine gs_rfl ?_)
  | with_reducible refine wp_c ?_
  | with_reducible refine wp_cons ?_
  | with_reducible refine wp_nil ?_
  | with_reducible refine wp_cb ?_
  | with_reducible refine wp_cbn ?_
  | with_reducible refine wp_tst ?_
  | with_reducible refine wp_if ?_
  | with_reducible refine wp_un ?_
  | with_reducible refine wp_new ?_
  | with_reducible refine wp_box ?_
  | with_reducible refine wp_and ?_
  | with_reducible refine wp_or ?_
  | with_reducible refine wp_not ?_
  | with_reducible refine wp_sl ?_
  | with_reducible refine wp_call ?_
  | with_reducible refine wp_tup ?_
  | with_reducible refine wp_lst ?_
  | with_reducible refine wp_part ?_
  | with_reducible refine wp_mt ?_
  | with_reducible refine wp_iter ?_
  | with_reducible refine wp_range1 ?_
  | with_reducible refine wp_range2 ?_
  | with_reducible refine and_sz (by exact Nat.le_of_ble_eq_true rfl) ?_
  | with_reducible refine ws_seq ?_
  | with_reducible refine ws_set ?_
  | with_reducible refine ws_if ?_
  | with_reducible refine ws_ret ?_
  | with_reducible refine ws_drop ?_
  | with_reducible refine ws_nil ?_
  | with_reducible refine ws_par ?_
  | with_reducible refine ws_asg ?_
  | with_reducible refine tg_st ?_
  | with_reducible refine tg_n ?_
  | with_reducible refine g_add ?_
  | with_reducible refine g_sub ?_
  | with_reducible refine g_neg ?_
  | with_reducible refine g_lt ?_
  | with_reducible refine g_gt ?_
  | with_reducible refine g_le ?_
  | with_reducible refine g_ge ?_
  | with_reducible refine g_eq ?_
  | with_reducible refine g_ne ?_
  | with_reducible refine g_eqS ?_
  | with_reducible refine g_neS ?_
  | with_reducible refine g_tst ?_
  | with_reducible refine g_abs ?_
  | with_reducible refine g_int ?_
  | with_reducible refine g_intB ?_
  | with_reducible refine g_max2 ?_
  | with_reducible refine g_min2 ?_
  | with_reducible refine g_mul ?_ ?_
  | with_reducible refine g_div ?_ ?_
  | with_reducible refine g_mod ?_ ?_
  | with_reducible refine g_pow ?_ ?_
  | refine g_ix (by first | assumption | with_reducible rfl) (by first | assumption | rfl) ?_
  | refine g_len (by first | assumption | with_reducible rfl) ?_
  | with_reducible refine g_append ?_ ?_
  | dsimp only [List.set])
open Co
section
variable {h hp hp' h1 h2 : Hs} {d x y : D} {xs ds : List D} {n k c : Nat} {Q : D → Hs → Prop} {g t m T T' b R : Int} {body : MS} {env : Env} {QS : Src → Hs → Prop} {r : M (List D)} {ns : List Int}
/-- one more box than the caller's, the hand's changed -/
structure One (n : Nat) (T : Int) (hp h : Hs) (f : List Int) : Prop where
  len : h.length = hp.length + 1
  a : h[hp.length]? = some (some (.lst (f.map .int)))
  H : Hn h n T
  eq : ∀ i, i < hp.length → i ≠ n → h[i]? = hp[i]?
theorem One.sm (O : One n T hp h ns) (hn : n < hp.length) (S : Sm n h h2) (H : Hn h2 n T') : One n T' hp h2 ns :=
  ⟨by rw [S.len, O.len], by rw [S.eq _ (by omega)]; exact O.a, H, fun i h1 h2 => (S.eq i h2).trans (O.eq i h1 h2)⟩
theorem One.set {f : List Int} (O : One n T hp h ns) (hn : n < hp.length) : One n T hp (h.set hp.length (some (.lst (f.map .int)))) f :=
  ⟨by rw [List.length_set, O.len], by rw [List.getElem?_set_self (by rw [O.len]; omega)], O.H.set (by omega), fun i h1 h2 => by rw [List.getElem?_set_ne (by omega)]; exact O.eq i h1 h2⟩
/-- amounts between 0 and a bound -/
def Bd (ns : List Int) (c : Nat) (R : Int) : Prop := ns.length = c ∧ ∀ (i : Nat) z, ns[i]? = some z → 0 ≤ z ∧ z ≤ R
theorem Bd.at_ (h : Bd ns c R) {i : Nat} (hi : i < c) : ∃ z, ns[i]? = some z ∧ 0 ≤ z ∧ z ≤ R := by
  have hl := h.1
  have e : ns[i]? = some ns[i] := List.getElem?_eq_getElem (by omega)
  exact ⟨_, e, h.2 i _ e⟩
theorem Bd.mono {R' : Int} (h : Bd ns c R) (hR : R ≤ R') : Bd ns c R' := ⟨h.1, fun i z e => ⟨(h.2 i z e).1, Int.le_trans (h.2 i z e).2 hR⟩⟩
theorem Bd.set {i : Nat} {z : Int} (h : Bd ns c R) (hz : 0 ≤ z ∧ z ≤ R) : Bd (ns.set i z) c R := by
  refine ⟨by rw [List.length_set]; exact h.1, fun j y e => ?_⟩
  by_cases e1 : i = j
  · subst e1
    have hi : i < ns.length := by have := (List.getElem?_eq_some_iff.mp e).1; simpa using this
    rw [List.getElem?_set_self hi] at e
    cases e; exact hz
  · rw [List.getElem?_set_ne e1] at e
    exact h.2 j y e
theorem Bd.perm {ms : List Int} (h : Bd ns c R) (p : ms.Perm ns) : Bd ms c R := by
  refine ⟨p.length_eq.trans h.1, fun i z e => ?_⟩
  have hm := p.mem_iff.mp (List.mem_of_getElem? e)
  obtain ⟨j, hj⟩ := List.mem_iff_getElem?.mp hm
  exact h.2 j z hj
theorem ints_atI {z q : Int} {i : Nat} (e : ns[i]? = some z) (hq : q = (i : Int)) : atI (ns.map D.int) q = some (.int z) := by
  have hi := (List.getElem?_eq_some_iff.mp e).1
  rw [hq, Mi.atI_nat (by rw [List.length_map]; exact hi), List.getElem_map]
  rw [List.getElem?_eq_getElem hi] at e
  rw [Option.some.inj e]
theorem near_sp (hn : n < hp.length) (H : Hn hp n T) (hT : T < 2 ^ 48) (hc : 1 ≤ c) (hc2 : c ≤ 1000) (hb : 1 ≤ b) (hR0 : 0 ≤ R) (hR : ∀ i, i < c → row b i ≤ R) :
    Fs f__law_near [.loc n, .int c, .int b] hp fun d h => ∃ ms : List Int, d = .tup (ms.map .int) ∧ Bd ms c (R + 6 * c + b + 3) ∧ Hn h n (T + 8 * c + 1) ∧ Sm n hp h := by
  refine fs_cut (fs_run [some (.loc n), some (.int c), some (.int b), none, none, none, none, none, none, none, none] rfl ?_)
  unfold m__law_near
  have sl : sizeLine = 2 ^ 24 := rfl
  repeat trivial
  refine ⟨rfl, (rows_sp (by omega)).mono ?_⟩
  rintro d h ⟨rfl, rfl⟩
  refine g_addL rfl rfl (by simp; omega) ?_
  repeat trivial
  refine wp_compP (fun i _ => .int (row b i - (if i = 0 then 0 else row b (i - 1)))) ?_
  repeat trivial
  refine ⟨c, rfl, ⟨by omega, by omega⟩, trivial, by rw [rngD_len]; omega, ?_, ?_⟩
  · intro i x hx
    obtain ⟨hi, rfl⟩ := rngD_get hx
    rw [Int.toNat_natCast] at hi
    refine tg_n ?_
    dsimp only [wipeE, List.set]
    repeat trivial
    have q1 : ∀ j, j < c → atI ([D.int 0] ++ (rowsL b c).map D.int) (((j + 1 : Nat)) : Int) = some (.int (row b j)) := fun j hj => by
      rw [Mi.atI_nat (by simp; omega)]
      simp [rowsL]
    refine g_ix rfl (d := .int (row b i)) (by rw [show (0 : Int) + (i : Int) + 1 = ((i + 1 : Nat) : Int) by omega]; exact q1 i hi) ?_
    repeat trivial
    refine g_ix rfl (d := .int (if i = 0 then 0 else row b (i - 1))) ?_ ?_
    · rw [Int.zero_add]
      cases i with
      | zero => exact (Mi.atI_nat (k := 0) (by simp)).trans rfl
      | succ j => exact q1 j (by omega)
    repeat trivial
    all_goals exact ⟨rfl, rfl⟩
  rw [mapIdx_range, rngD_len, Int.toNat_natCast]
  have e1 : (List.range c).map (fun i => D.int (row b i - (if i = 0 then 0 else row b (i - 1)))) = ((List.range c).map fun i => row b i - (if i = 0 then 0 else row b (i - 1))).map .int := by rw [List.map_map]; rfl
  rw [e1]
  have b0 : Bd ((List.range c).map fun i => row b i - (if i = 0 then 0 else row b (i - 1))) c R := by
    refine ⟨by simp, fun i z e => ?_⟩
    have hi : i < c := by have := (List.getElem?_eq_some_iff.mp e).1; simpa using this
    rw [List.getElem?_map, List.getElem?_range hi] at e
    cases e
    have h1 := hR i hi
    have h2 := (row_bd hb i).1
    cases i with
    | zero => dsimp only; rw [if_pos rfl]; omega
    | succ j =>
      have h3 := (row_bd hb j).1
      dsimp only
      rw [if_neg (by omega)]
      have h4 : 0 ≤ (row b j - 1) / ((j : Int) + 1) := Int.ediv_nonneg (by omega) (by omega)
      have h5 : row b (j + 1) = row b j + (row b j - 1) / ((j : Int) + 1) + b := rfl
      simp only [Nat.add_sub_cancel]
      omega
  generalize ((List.range c).map fun i => row b i - (if i = 0 then 0 else row b (i - 1))) = ds0 at b0
  repeat trivial
  refine ⟨rfl, (mixed_sp hn H (by omega) (.inl rfl) (by rw [b0.1]; omega)).mono ?_⟩
  rintro d h1 ⟨rfl, ms, P, a1, l1, H1, q1⟩
  rw [b0.1] at H1
  have O1 : One n (T + c) h h1 ms := ⟨l1, a1, H1, q1⟩
  have B1 := b0.perm P
  repeat trivial
  refine ws_for ?_
  repeat trivial
  · exact mulOk_of (k := 60) (m := 60) (by decide) (by decide) (by omega) (by omega)
  repeat trivial
  refine ⟨rfl, (take_sp O1.H (by omega) (by omega) (by omega)).mono ?_⟩
  rintro d h2 ⟨z, rfl, z0, z1, H2, S2⟩
  have O2 := O1.sm hn S2 H2
  repeat trivial
  refine ⟨z, rfl, ⟨by omega, by omega⟩, ?_⟩
  have hz : (rngD 0 z.toNat).length = z.toNat := rngD_len
  refine ⟨fun i e h' => ∃ e5 e6 e7 e8 e9 e10 ms, e = [some (.loc n), some (.int c), some (.int b), some (.lst ([D.int 0] ++ (rowsL b c).map D.int)), some (.loc h.length), e5, e6, e7, e8, e9, e10] ∧ One n (T + c + 1 + 3 * i) h h' ms ∧ Bd ms c (R + 3 * i),
    ⟨_, _, _, _, _, _, ms, rfl, by simpa using O2, by simpa using B1⟩, fun _ _ _ _ _ => trivial, ?_, ?_⟩
  · rintro i x e h' hx ⟨e5, e6, e7, e8, e9, e10, ms, rfl, O, B⟩
    obtain ⟨hi, rfl⟩ := rngD_get hx
    refine tg_n ?_
    repeat trivial
    refine ⟨rfl, (take_sp O.H (by omega) (by omega) (by omega)).mono ?_⟩
    rintro d h3 ⟨gv, rfl, g0, g1, H3, S3⟩
    have O3 := O.sm hn S3 H3
    repeat trivial
    refine ⟨rfl, (take_sp O3.H (by omega) (by omega) (by omega)).mono ?_⟩
    rintro d h4 ⟨tk, rfl, t0, t1, H4, S4⟩
    have O4 := O3.sm hn S4 H4
    repeat trivial
    refine ⟨_, _, rfl, ?_⟩
    repeat trivial
    refine ⟨rfl, (of_sp (ns := [1, 1, 1, 2, 3]) O4.H (by omega) (by decide) (by decide)).mono ?_⟩
    rintro d h5 ⟨am, hm, rfl, H5, S5⟩
    have O5 := O4.sm hn S5 H5
    have am2 : 1 ≤ am ∧ am ≤ 3 := by
      simp only [List.mem_cons, List.not_mem_nil, or_false] at hm
      omega
    obtain ⟨gv, rfl⟩ := Int.eq_ofNat_of_zero_le g0
    obtain ⟨tk, rfl⟩ := Int.eq_ofNat_of_zero_le t0
    obtain ⟨zg, eg, zg0, zg1⟩ := B.at_ (i := gv) (by omega)
    repeat trivial
    refine g_ix (seqv_at O5.a) (ints_atI eg rfl) ?_
    repeat trivial
    refine ⟨fun c1 => ?_, fun c1 => ?_⟩
    · have c1 := of_decide_eq_true c1
      repeat trivial
      refine g_ix (seqv_at O5.a) (ints_atI eg rfl) ?_
      repeat trivial
      have lm := B.1
      refine ⟨h.length, _, _, gv, rfl, rfl, O5.a, ixN_nat (by simp; omega), ?_⟩
      have em : (ms.map D.int).set gv (.int (zg - am)) = (ms.set gv (zg - am)).map .int := List.map_set.symm
      rw [em]
      have O6 := O5.set (f := ms.set gv (zg - am)) hn
      have B6 : Bd (ms.set gv (zg - am)) c (R + 3 * i) := B.set ⟨by omega, by omega⟩
      obtain ⟨zt, et, zt0, zt1⟩ := B6.at_ (i := tk) (by omega)
      repeat trivial
      refine g_ix (seqv_at O6.a) (ints_atI et rfl) ?_
      repeat trivial
      refine ⟨h.length, _, _, tk, rfl, rfl, O6.a, ixN_nat (by simp; omega), ?_⟩
      have em2 : ((ms.set gv (zg - am)).map D.int).set tk (.int (zt + am)) = ((ms.set gv (zg - am)).set tk (zt + am)).map .int := List.map_set.symm
      rw [em2]
      have O7 := O6.set (f := (ms.set gv (zg - am)).set tk (zt + am)) hn
      repeat trivial
      refine ⟨_, _, _, _, _, _, _, rfl, ⟨O7.len, O7.a, O7.H.mono (by omega), O7.eq⟩, (B6.mono (by omega)).set ⟨by omega, by omega⟩⟩
    · repeat trivial
      exact ⟨_, _, _, _, _, _, _, rfl, ⟨O5.len, O5.a, O5.H.mono (by omega), O5.eq⟩, B.mono (by omega)⟩
  · rintro e h' ⟨e5, e6, e7, e8, e9, e10, ms, rfl, O, B⟩
    rw [hz] at O B
    have O := (⟨O.len, O.a, O.H.mono (show T + c + 1 + 3 * (z.toNat : Int) ≤ T + c + 1 + 6 * c by omega), O.eq⟩ : One n (T + c + 1 + 6 * c) h h' ms)
    have B := B.mono (show R + 3 * (z.toNat : Int) ≤ R + 6 * c by omega)
    repeat trivial
    refine ws_for ?_
    repeat trivial
    refine ⟨c, rfl, ⟨by omega, by omega⟩, ?_⟩
    refine ⟨fun i e h' => ∃ e5 e6 e7 e8 e9 e10 ms, e = [some (.loc n), some (.int c), some (.int b), some (.lst ([D.int 0] ++ (rowsL b c).map D.int)), some (.loc h.length), e5, e6, e7, e8, e9, e10] ∧ One n (T + c + 1 + 6 * c + i) h h' ms ∧ Bd ms c (R + 6 * c + b + 3) ∧ ∀ j z, i ≤ j → ms[j]? = some z → z ≤ R + 6 * c,
      ⟨_, _, _, _, _, _, ms, rfl, by simpa using O, B.mono (by omega), fun j z _ e => (B.2 j z e).2⟩, fun _ _ _ _ _ => trivial, ?_, ?_⟩
    · rintro i x e h' hx ⟨e5, e6, e7, e8, e9, e10, ms, rfl, O, B, U⟩
      obtain ⟨hi, rfl⟩ := rngD_get hx
      rw [Int.toNat_natCast] at hi
      obtain ⟨zi, ei, zi0, zi1⟩ := B.at_ hi
      have zu := U i zi (Nat.le_refl _) ei
      refine tg_n ?_
      repeat trivial
      refine g_ix (seqv_at O.a) (ints_atI ei (by omega)) ?_
      repeat trivial
      refine ⟨rfl, (of_sp (ns := [0, 0, 0, 0, 0, 0, 1, 2, -1, b]) O.H (by omega) (by simp) (by simp)).mono ?_⟩
      rintro d h3 ⟨u, hu, rfl, H3, S3⟩
      have O3 := O.sm hn S3 H3
      have hu2 : u ≤ b + 2 := by
        simp only [List.mem_cons, List.not_mem_nil, or_false] at hu
        omega
      have lm := B.1
      repeat trivial
      generalize hv : (if zi + u > 0 then zi + u else 0) = v
      have hv2 : 0 ≤ v ∧ v ≤ R + 6 * c + b + 3 := by
        subst hv
        split <;> omega
      refine ⟨h.length, _, _, i, rfl, by rw [Int.zero_add], O3.a, ixN_nat (by simp; omega), ?_⟩
      have em : (ms.map D.int).set i (.int v) = (ms.set i v).map .int := List.map_set.symm
      rw [em]
      have O6 := O3.set (f := ms.set i v) hn
      repeat trivial
      refine ⟨_, _, _, _, _, _, _, rfl, ⟨O6.len, O6.a, O6.H.mono (by omega), O6.eq⟩, B.set hv2, fun j z hj e => ?_⟩
      rw [List.getElem?_set_ne (by omega)] at e
      exact U j z (by omega) e
    · rintro e h' ⟨e5, e6, e7, e8, e9, e10, ms, rfl, O, B, U⟩
      rw [rngD_len, Int.toNat_natCast] at O
      repeat trivial
      refine g_tup (seqv_at O.a) ?_
      have kb : keepsB h.length h h' := fun i o hi e => by
        by_cases hin : i = n
        · subst hin
          obtain ⟨g, x, t, Hh, _⟩ := O.H
          rw [Hh.at_] at e
          cases e
          exact .inr rfl
        · rw [O.eq i hi hin] at e; exact .inl e
      refine ⟨kb, _, ice_tupI, ms, rfl, B, (O.H.take hn).mono (by omega), ⟨by rw [List.length_take, O.len]; omega, fun i hi => ?_⟩⟩
      by_cases hl : i < h.length
      · rw [List.getElem?_take_of_lt hl]; exact O.eq i hl hi
      · rw [List.getElem?_eq_none (by rw [List.length_take]; omega), List.getElem?_eq_none (by omega)]
end
end Mi
-- Enc
set_option Elab.async false
set_option linter.all false
set_option maxRecDepth 100000
set_option maxHeartbeats 2000000
namespace Mi
open PySem L2 PyProof.Rows PySem.Spec
/-! ### plain values as data -/
class Enc (α : Type) where
  enc : α → D
  py : α → PyData
  dep : Nat
  sz : α → Nat
  bd : Nat → α → Prop
  hpy : ∀ a, (enc a).py = some (py a)
  lay : ∀ a, (py a).canLay0 = true ∧ (py a).depth ≤ dep
  nice : ∀ k a, 0 < k → 4 * k ≤ 1920 → bd k a → Nice (k + 1) (sz a) dep (enc a) (py a)
  clo : ∀ n bn h k a, dep ≤ k → ice n bn h (k + 1) (enc a) = some (enc a)
  eqv : ∀ a b, PyData.eqv (py a) (py b) = true → a = b
  eqr : ∀ a, PyData.eqv (py a) (py a) = true
  lk : ∀ h a, look h (enc a) = enc a
open Enc
section
variable {α β γ : Type} [Enc α] [Enc β] [Enc γ]
instance : Enc Int where
  enc := .int
  py := .int
  dep := 0
  sz _ := 0
  bd k i := -(10 ^ k) < i ∧ i < 10 ^ k
  hpy _ := rfl
  lay a := ⟨by rw [PyData.canLay0], by rw [PyData.depth]; omega⟩
  nice k a h0 h1 h := Nice.int h.1 h.2 h0 (Nat.le_refl _) h1
  clo n bn h k a hk := rfl
  eqv a b h := by simpa [PyData.eqv] using h
  eqr a := by simp [PyData.eqv]
  lk h a := rfl
instance : Enc Bool where
  enc := .bl
  py := .bool
  dep := 0
  sz _ := 0
  bd k i := True
  hpy _ := rfl
  lay a := ⟨by rw [PyData.canLay0], by rw [PyData.depth]; omega⟩
  nice k a h0 h1 h := Nice.bl
  clo n bn h k a hk := rfl
  eqv a b h := by simpa [PyData.eqv] using h
  eqr a := by simp [PyData.eqv]
  lk h a := rfl
theorem encL_py (xs : List α) : D.pyAll (xs.map enc) = some (xs.map py) := by
  induction xs with
  | nil => rfl
  | cons x xs ih => rw [List.map_cons, D.pyAll, ih, hpy]; rfl
theorem encL_lay (xs : List α) : PyData.canLayAll0 (xs.map py) = true ∧ PyData.depthAll (xs.map (py (α := α))) ≤ dep α := by
  induction xs with
  | nil => exact ⟨by rw [List.map_nil, PyData.canLayAll0], by rw [List.map_nil, PyData.depthAll]; omega⟩
  | cons x xs ih =>
    have := lay x
    exact ⟨by rw [List.map_cons, PyData.canLayAll0, ih.1, this.1]; rfl, by rw [List.map_cons, PyData.depthAll]; have := this.2; have := ih.2; omega⟩
def szL (xs : List α) : Nat := (xs.map fun a => sz a + 1).sum
theorem encL_nice (k : Nat) (xs : List α) (h0 : 0 < k) (h1 : 4 * k ≤ 1920) (h : ∀ a ∈ xs, bd k a) : NiceL (k + 1) (szL xs) (dep α) (xs.map enc) (xs.map py) := by
  induction xs with
  | nil => exact NiceL.nil.mono (Nat.zero_le _) (Nat.zero_le _)
  | cons x xs ih => exact (NiceL.cons (nice k x h0 h1 (h x (by simp))) (ih fun a ha => h a (by simp [ha]))).mono (by simp [szL]) (Nat.le_refl _)
theorem encL_clo (n bn h k) (xs : List α) (hk : dep α ≤ k) : allD (ice n bn h (k + 1)) (xs.map enc) = some (xs.map enc) := by
  induction xs with
  | nil => rfl
  | cons x xs ih => rw [List.map_cons, allD, clo n bn h k x hk, ih]
theorem encL_eqv : ∀ xs ys : List α, PyData.eqvAll (xs.map py) (ys.map py) = true → xs = ys
  | [], [], _ => rfl
  | [], y :: ys, h => by simp [PyData.eqvAll] at h
  | x :: xs, [], h => by simp [PyData.eqvAll] at h
  | x :: xs, y :: ys, h => by
    rw [List.map_cons, List.map_cons, PyData.eqvAll, Bool.and_eq_true] at h
    rw [eqv x y h.1, encL_eqv xs ys h.2]
theorem encL_eqr : ∀ xs : List α, PyData.eqvAll (xs.map py) (xs.map py) = true
  | [] => by simp [PyData.eqvAll]
  | x :: xs => by rw [List.map_cons, PyData.eqvAll, eqr, encL_eqr xs]; rfl
/-- a tuple -/
instance : Enc (List α) where
  enc xs := .tup (xs.map enc)
  py xs := .tuple (xs.map py)
  dep := dep α + 1
  sz := szL
  bd k xs := ∀ a ∈ xs, bd k a
  hpy xs := by rw [D.py, encL_py]
  lay xs := ⟨by rw [PyData.canLay0]; exact (encL_lay xs).1, by rw [PyData.depth]; have := (encL_lay xs).2; omega⟩
  nice k xs h0 h1 h := Nice.tup (encL_nice k xs h0 h1 h)
  clo n bn h k xs hk := by
    obtain ⟨j, rfl⟩ : ∃ j, k = j + 1 := ⟨k - 1, by omega⟩
    rw [ice, encL_clo n bn h j xs (by omega)]; rfl
  eqv xs ys h := encL_eqv xs ys (by rwa [PyData.eqv] at h)
  eqr xs := by rw [PyData.eqv]; exact encL_eqr xs
  lk h xs := rfl
/-- a list -/
structure Ls (α : Type) where
  l : List α
deriving DecidableEq
instance : Enc (Ls α) where
  enc xs := .lst (xs.l.map enc)
  py xs := .list (xs.l.map py)
  dep := dep α + 1
  sz xs := szL xs.l
  bd k xs := ∀ a ∈ xs.l, bd k a
  hpy xs := by rw [D.py, encL_py]
  lay xs := ⟨by rw [PyData.canLay0]; exact (encL_lay xs.l).1, by rw [PyData.depth]; have := (encL_lay xs.l).2; omega⟩
  nice k xs h0 h1 h := Nice.lst (encL_nice k xs.l h0 h1 h)
  clo n bn h k xs hk := by
    obtain ⟨j, rfl⟩ : ∃ j, k = j + 1 := ⟨k - 1, by omega⟩
    rw [ice, encL_clo n bn h j xs.l (by omega)]; rfl
  eqv xs ys h := by
    have := encL_eqv xs.l ys.l (by rwa [PyData.eqv] at h)
    cases xs; cases ys; cases this; rfl
  eqr xs := by rw [PyData.eqv]; exact encL_eqr xs.l
  lk h xs := rfl
/-- a pair -/
instance : Enc (α × β) where
  enc x := .tup [enc x.1, enc x.2]
  py x := .tuple [py x.1, py x.2]
  dep := max (dep α) (dep β) + 1
  sz x := sz x.1 + sz x.2 + 2
  bd k x := bd k x.1 ∧ bd k x.2
  hpy x := by rw [D.py, D.pyAll, D.pyAll, D.pyAll, hpy, hpy]
  lay x := by
    have a := lay x.1
    have b := lay x.2
    exact ⟨by rw [PyData.canLay0, PyData.canLayAll0, PyData.canLayAll0, PyData.canLayAll0, a.1, b.1]; rfl, by rw [PyData.depth, PyData.depthAll, PyData.depthAll, PyData.depthAll]; have := a.2; have := b.2; omega⟩
  nice k x h0 h1 h := (Nice.tup (NiceL.cons ((nice k x.1 h0 h1 h.1).mono (Nat.le_refl _) (Nat.le_max_left _ _)) (NiceL.cons ((nice k x.2 h0 h1 h.2).mono (Nat.le_refl _) (Nat.le_max_right _ _)) (NiceL.nil.mono (Nat.le_refl _) (Nat.zero_le _))))).mono (by omega) (Nat.le_refl _)
  clo n bn h k x hk := by
    obtain ⟨j, rfl⟩ : ∃ j, k = j + 1 := ⟨k - 1, by omega⟩
    rw [ice, allD, allD, allD, clo n bn h j x.1 (by omega), clo n bn h j x.2 (by omega)]; rfl
  eqv x y h := by
    rw [PyData.eqv, PyData.eqvAll, PyData.eqvAll, PyData.eqvAll, Bool.and_eq_true, Bool.and_eq_true] at h
    exact Prod.ext (eqv _ _ h.1) (eqv _ _ h.2.1)
  eqr x := by rw [PyData.eqv, PyData.eqvAll, PyData.eqvAll, PyData.eqvAll, eqr, eqr]; rfl
  lk h x := rfl
/-- three -/
structure T3 (α β γ : Type) where
  a : α
  b : β
  c : γ
deriving DecidableEq
instance : Enc (T3 α β γ) where
  enc x := .tup [enc x.a, enc x.b, enc x.c]
  py x := .tuple [py x.a, py x.b, py x.c]
  dep := max (dep α) (max (dep β) (dep γ)) + 1
  sz x := sz x.a + sz x.b + sz x.c + 3
  bd k x := bd k x.a ∧ bd k x.b ∧ bd k x.c
  hpy x := by rw [D.py, D.pyAll, D.pyAll, D.pyAll, D.pyAll, hpy, hpy, hpy]
  lay x := by
    have a := lay x.a
    have b := lay x.b
    have c := lay x.c
    exact ⟨by rw [PyData.canLay0, PyData.canLayAll0, PyData.canLayAll0, PyData.canLayAll0, PyData.canLayAll0, a.1, b.1, c.1]; rfl, by rw [PyData.depth, PyData.depthAll, PyData.depthAll, PyData.depthAll, PyData.depthAll]; have := a.2; have := b.2; have := c.2; omega⟩
  nice k x h0 h1 h := (Nice.tup (NiceL.cons ((nice k x.a h0 h1 h.1).mono (Nat.le_refl _) (by omega)) (NiceL.cons ((nice k x.b h0 h1 h.2.1).mono (Nat.le_refl _) (by omega)) (NiceL.cons ((nice k x.c h0 h1 h.2.2).mono (Nat.le_refl _) (by omega)) (NiceL.nil.mono (Nat.le_refl _) (Nat.zero_le _)))))).mono (by omega) (Nat.le_refl _)
  clo n bn h k x hk := by
    obtain ⟨j, rfl⟩ : ∃ j, k = j + 1 := ⟨k - 1, by omega⟩
    rw [ice, allD, allD, allD, allD, clo n bn h j x.a (by omega), clo n bn h j x.b (by omega), clo n bn h j x.c (by omega)]; rfl
  eqv x y h := by
    rw [PyData.eqv, PyData.eqvAll, PyData.eqvAll, PyData.eqvAll, PyData.eqvAll, Bool.and_eq_true, Bool.and_eq_true, Bool.and_eq_true] at h
    cases x; cases y
    cases eqv _ _ h.1; cases eqv _ _ h.2.1; cases eqv _ _ h.2.2.1; rfl
  eqr x := by rw [PyData.eqv, PyData.eqvAll, PyData.eqvAll, PyData.eqvAll, PyData.eqvAll, eqr, eqr, eqr]; rfl
  lk h x := rfl
/-- None or a value that is not None -/
class NN (α : Type) [Enc α] : Prop where
  nn : ∀ a : α, PyData.eqv .none (py a) = false ∧ PyData.eqv (py a) .none = false
instance : NN Int := ⟨fun a => ⟨by show PyData.eqv .none (.int a) = _; simp [PyData.eqv], by show PyData.eqv (.int a) .none = _; simp [PyData.eqv]⟩⟩
instance : NN (List α) := ⟨fun a => ⟨by show PyData.eqv .none (.tuple _) = _; simp [PyData.eqv], by show PyData.eqv (.tuple _) .none = _; simp [PyData.eqv]⟩⟩
instance : NN (T3 α β γ) := ⟨fun a => ⟨by show PyData.eqv .none (.tuple _) = _; simp [PyData.eqv], by show PyData.eqv (.tuple _) .none = _; simp [PyData.eqv]⟩⟩
instance : NN (α × β) := ⟨fun a => ⟨by show PyData.eqv .none (.tuple _) = _; simp [PyData.eqv], by show PyData.eqv (.tuple _) .none = _; simp [PyData.eqv]⟩⟩
instance [NN α] : Enc (Option α) where
  enc x := match x with | none => .non | some a => enc a
  py x := match x with | none => .none | some a => py a
  dep := dep α
  sz x := match x with | none => 0 | some a => sz a
  bd k x := match x with | none => True | some a => bd k a
  hpy x := by cases x; rfl; exact hpy _
  lay x := by
    cases x with
    | none => exact ⟨by show PyData.canLay0 .none = _; rw [PyData.canLay0], by show PyData.depth .none ≤ _; rw [PyData.depth]; omega⟩
    | some a => exact lay a
  nice k x h0 h1 h := by
    cases x with
    | none => exact Nice.non.mono (Nat.le_refl _) (Nat.zero_le _)
    | some a => exact nice k a h0 h1 h
  clo n bn h k x hk := by
    cases x with
    | none => rfl
    | some a => exact clo n bn h k a hk
  eqv x y h := by
    cases x with
    | none => cases y with
      | none => rfl
      | some b => exact absurd h (by show ¬ PyData.eqv .none (py b) = true; rw [(NN.nn b).1]; simp)
    | some a => cases y with
      | none => exact absurd h (by show ¬ PyData.eqv (py a) .none = true; rw [(NN.nn a).2]; simp)
      | some b => rw [eqv a b h]
  eqr x := by
    cases x with
    | none => show PyData.eqv .none .none = true; simp [PyData.eqv]
    | some a => exact eqr a
  lk h x := by
    cases x with
    | none => rfl
    | some a => exact lk h a
theorem enc_shp (a : α) (hd : dep α ≤ 64) : SeqAt.shaped (py a) = true := by
  unfold SeqAt.shaped
  have := lay a
  rw [this.1, decide_eq_true (by omega)]; rfl
theorem eqD_enc {h : Hs} {x y : D} {a b : α} (e1 : look h x = enc a) (e2 : look h y = enc b) (hd : dep α ≤ 64) : eqD h x y = some (PyData.eqv (py a) (py b)) := by
  unfold eqD
  rw [e1, e2]
  have p1 := hpy a
  have p2 := hpy b
  generalize enc a = u at p1
  generalize enc b = w at p2
  split
  · rw [← Option.some.inj (show some (PyData.int _) = some (py a) from p1), ← Option.some.inj (show some (PyData.int _) = some (py b) from p2)]; simp [PyData.eqv]; rfl
  · rw [← Option.some.inj (show some (PyData.str _) = some (py a) from p1), ← Option.some.inj (show some (PyData.str _) = some (py b) from p2)]; simp [PyData.eqv]; rfl
  · rw [← Option.some.inj (show some (PyData.bool _) = some (py a) from p1), ← Option.some.inj (show some (PyData.bool _) = some (py b) from p2)]; simp [PyData.eqv]; rfl
  · rw [← Option.some.inj (show some (PyData.none) = some (py a) from p1), ← Option.some.inj (show some (PyData.none) = some (py b) from p2)]; simp [PyData.eqv]
  · rw [p1, p2]
    dsimp only
    rw [if_pos ⟨enc_shp a hd, enc_shp b hd⟩]
theorem eqv_dec [DecidableEq α] (a b : α) : PyData.eqv (py a) (py b) = decide (a = b) := by
  by_cases e : a = b
  · subst e; rw [eqr]; simp
  · rw [decide_eq_false e]
    cases c : PyData.eqv (py a) (py b) with
    | false => rfl
    | true => exact absurd (eqv a b c) e
theorem g_neE [DecidableEq α] {h : Hs} {x y : D} {Q : D → Prop} (a b : α) (e1 : look h x = enc a) (e2 : look h y = enc b) (hd : dep α ≤ 64) (q : Q (.bl (!decide (a = b)))) : Gt (gNe h x y) Q :=
  ⟨_, by unfold gNe; rw [eqD_enc e1 e2 hd, eqv_dec], q⟩
/-! ### ends of defs -/
def Clo (d : D) : Prop := ∀ n bn h, ice n bn h 8 d = some d
theorem clo_enc (a : α) (hd : dep α ≤ 7 := by decide) : Clo (enc a) := fun n bn h => clo n bn h 7 a hd
theorem clo_int {i : Int} : Clo (.int i) := fun _ _ _ => rfl
theorem clo_tup {ns : List Int} : Clo (.tup (ns.map .int)) := clo_enc ns
variable {hp hs : Hs} {d x y : D} {Q : D → Hs → Prop} {f : Fn} {ds : List D}
theorem fin_pu (c : Clo d) (q : Q d hp) : keepsB hp.length hp hp ∧ ∃ d', ice hp.length none hp 8 d = some d' ∧ Q d' (hp.take hp.length) :=
  ⟨keepsB_refl, d, c _ _ _, by rw [List.take_length]; exact q⟩
theorem fin_app (c : Clo d) (q : Q d hp) : keepsB hp.length hp (hp ++ hs) ∧ ∃ d', ice hp.length none (hp ++ hs) 8 d = some d' ∧ Q d' ((hp ++ hs).take hp.length) :=
  ⟨keepsB_app keepsB_refl (Nat.le_refl _), d, c _ _ _, by rw [List.take_left]; exact q⟩
theorem fin_eq (c : Clo d) : keepsB hp.length hp hp ∧ ∃ d', ice hp.length none hp 8 d = some d' ∧ d' = d ∧ hp.take hp.length = hp := fin_pu (Q := fun d' h => d' = d ∧ h = hp) c ⟨rfl, rfl⟩
theorem fin_eqA (c : Clo d) : keepsB hp.length hp (hp ++ hs) ∧ ∃ d', ice hp.length none (hp ++ hs) 8 d = some d' ∧ d' = d ∧ (hp ++ hs).take hp.length = hp := fin_app (Q := fun d' h => d' = d ∧ h = hp) c ⟨rfl, rfl⟩
/-- a def without effects -/
def Pu (f : Fn) (ds : List D) (d : D) : Prop := ∀ hp, Fs f ds hp fun d' h => d' = d ∧ h = hp
theorem Pu.fs (p : Pu f ds d) (q : Q d hp) : Fs f ds hp Q := (p hp).mono (by rintro _ _ ⟨rfl, rfl⟩; exact q)
end
section
variable {α β : Type} {env env' : Env} {hp : Hs} {Q : List D → Hs → Prop}
/-- a comprehension that changes nothing -/
theorem wp_compF {w : M Src} {g : MG} {t : M Bool} {m : M D} {vs : List Nat} (l : List α) (en : α → D) (c : α → Bool) (F : α → D)
    (q : Wp w env hp fun src h => src.items = l.map en ∧ src.keep h ∧ l.length ≤ sizeLine ∧ (∀ a ∈ l, Tg g (en a) (wipeE env vs) h fun e1 h1 => h1 = h ∧ Wp t e1 h fun cc h2 => h2 = h ∧ cc = c a ∧ (c a = true → Wp m e1 h fun d h3 => h3 = h ∧ d = F a)) ∧ Q ((l.filter c).map F) h) :
    Wp (mComp w g t m vs) env hp Q := by
  refine wp_comp (q.mono fun src h q => ?_)
  obtain ⟨e, kp, hl, st, q⟩ := q
  have hlen : src.items.length = l.length := by rw [e]; simp
  refine ⟨fun i acc h' => h' = h ∧ acc = ((l.take i).filter c).map F, ⟨rfl, by simp⟩, fun i acc h' z _ => by rw [z.1]; exact kp, fun i x acc h' hx z => ?_, fun acc h' z => ?_⟩
  · obtain ⟨rfl, rfl⟩ := z
    rw [e, List.getElem?_map] at hx
    cases ea : l[i]? with
    | none => rw [ea] at hx; cases hx
    | some a =>
      rw [ea] at hx; cases hx
      have hi : i < l.length := (List.getElem?_eq_some_iff.mp ea).1
      obtain ⟨e1, h1, z1, rfl, cc, h2, z2, rfl, rfl, q3⟩ := st a (List.mem_of_getElem? ea)
      have tk : l.take (i + 1) = l.take i ++ [a] := by rw [List.take_succ, ea]; rfl
      refine ⟨e1, _, z1, ⟨_, _, z2, fun hc => ?_, fun hc => ⟨rfl, ?_⟩⟩⟩
      · refine (q3 hc).mono ?_
        rintro d h3 ⟨rfl, rfl⟩
        refine ⟨?_, rfl, ?_⟩
        · have a1 := List.length_filter_le c (l.take i)
          have a2 : (l.take i).length ≤ i := by rw [List.length_take]; omega
          rw [List.length_map]
          omega
        · rw [tk, List.filter_append, List.map_append]
          simp [List.filter, hc]
      · rw [tk, List.filter_append, List.map_append]
        simp [List.filter, hc]
  · obtain ⟨rfl, rfl⟩ := z
    rw [hlen, List.take_length]; exact q
/-- .. without a test -/
theorem wp_compA {w : M Src} {g : MG} {m : M D} {vs : List Nat} (l : List α) (en : α → D) (F : α → D)
    (q : Wp w env hp fun src h => src.items = l.map en ∧ src.keep h ∧ l.length ≤ sizeLine ∧ (∀ a ∈ l, Tg g (en a) (wipeE env vs) h fun e1 h1 => h1 = h ∧ Wp m e1 h fun d h3 => h3 = h ∧ d = F a) ∧ Q (l.map F) h) :
    Wp (mComp w g (mC true) m vs) env hp Q := by
  refine wp_compF l en (fun _ => true) F (q.mono fun src h q => ?_)
  obtain ⟨e, kp, hl, st, q⟩ := q
  refine ⟨e, kp, hl, fun a ha => ?_, by rw [List.filter_eq_self.mpr fun _ _ => rfl]; exact q⟩
  obtain ⟨e1, h1, z, rfl, q1⟩ := st a ha
  exact ⟨e1, _, z, rfl, wp_c ⟨rfl, rfl, fun _ => q1⟩⟩
theorem rng0 {n : Nat} : rngD 0 n = (List.range n).map fun i : Nat => D.int (i : Int) := by
  unfold rngD; exact List.map_congr_left fun i _ => by rw [Int.zero_add]
theorem enum0 {xs : List D} : enumD 0 xs = xs.zipIdx.map fun a => D.itm [.int (a.2 : Int), a.1] := by
  apply List.ext_getElem?
  intro i
  cases h : (enumD 0 xs)[i]? with
  | none =>
    have : xs.length ≤ i := by have := List.getElem?_eq_none_iff.mp h; rwa [enumD_len] at this
    rw [List.getElem?_eq_none (by simpa using this)]
  | some d =>
    obtain ⟨x, hx, rfl⟩ := enumD_get h
    rw [List.getElem?_map, List.getElem?_zipIdx, hx]
    simp
theorem enum0I {xs : List Int} : enumD 0 (xs.map .int) = xs.zipIdx.map fun a => D.itm [.int (a.2 : Int), .int a.1] := by
  rw [enum0, List.zipIdx_map, List.map_map]; rfl
theorem zipE {α β : Type} {f : α → D} {g : β → D} {xs : List α} {ys : List β} : zipD (xs.map f) (ys.map g) = (xs.zip ys).map fun a => D.itm [f a.1, g a.2] := by
  apply List.ext_getElem?
  intro i
  cases h : (zipD (xs.map f) (ys.map g))[i]? with
  | none =>
    have : min xs.length ys.length ≤ i := by have := List.getElem?_eq_none_iff.mp h; rw [zipD_len] at this; simpa using this
    rw [List.getElem?_eq_none (by simpa using this)]
  | some d =>
    obtain ⟨x, y, hx, hy, rfl⟩ := zipD_get h
    rw [List.getElem?_map] at hx hy
    cases ex : xs[i]? with
    | none => rw [ex] at hx; cases hx
    | some a => cases ey : ys[i]? with
      | none => rw [ey] at hy; cases hy
      | some b =>
        rw [ex] at hx; rw [ey] at hy; cases hx; cases hy
        rw [List.getElem?_map, (List.getElem?_zip_eq_some (z := (a, b))).mpr ⟨ex, ey⟩]; rfl
end
end Mi
-- Th1
set_option Elab.async false
set_option linter.all false
set_option maxRecDepth 100000
set_option maxHeartbeats 2000000
namespace Mi
/-! ### sums over places -/
def sm : Nat → (Nat → Int) → Int
  | 0, _ => 0
  | n + 1, f => f 0 + sm n fun i => f (i + 1)
theorem sm_congr {f g : Nat → Int} : ∀ n, (∀ i, i < n → f i = g i) → sm n f = sm n g
  | 0, _ => rfl
  | n + 1, h => by
    unfold sm
    rw [h 0 (by omega), sm_congr n fun i hi => h (i + 1) (by omega)]
theorem sm_le {f g : Nat → Int} : ∀ n, (∀ i, i < n → f i ≤ g i) → sm n f ≤ sm n g
  | 0, _ => Int.le_refl _
  | n + 1, h => by
    unfold sm
    have a := h 0 (by omega)
    have b := sm_le (f := fun i => f (i + 1)) (g := fun i => g (i + 1)) n fun i hi => h (i + 1) (by omega)
    omega
theorem sm_add (f g : Nat → Int) : ∀ n, (sm n fun i => f i + g i) = sm n f + sm n g
  | 0 => rfl
  | n + 1 => by
    unfold sm
    rw [sm_add (fun i => f (i + 1)) (fun i => g (i + 1)) n]; dsimp only; omega
theorem sm_neg (f : Nat → Int) : ∀ n, (sm n fun i => - f i) = - sm n f
  | 0 => rfl
  | n + 1 => by
    unfold sm
    rw [sm_neg (fun i => f (i + 1)) n]; dsimp only; omega
theorem sm_sub (f g : Nat → Int) (n : Nat) : (sm n fun i => f i - g i) = sm n f - sm n g := by
  have := sm_add f (fun i => - g i) n
  rw [sm_neg] at this
  rw [Int.sub_eq_add_neg, ← this]
  exact sm_congr n fun i _ => Int.sub_eq_add_neg
theorem sm_mul (c : Int) (f : Nat → Int) : ∀ n, (sm n fun i => c * f i) = c * sm n f
  | 0 => by unfold sm; simp
  | n + 1 => by
    unfold sm
    rw [sm_mul c (fun i => f (i + 1)) n, Int.mul_add]
theorem sm_zero : ∀ n, (sm n fun _ => 0) = 0
  | 0 => rfl
  | n + 1 => by unfold sm; rw [sm_zero n]; rfl
theorem sm_last (f : Nat → Int) : ∀ n, sm (n + 1) f = sm n f + f n
  | 0 => by unfold sm sm; omega
  | n + 1 => by
    rw [sm, sm_last (fun i => f (i + 1)) n, sm]; omega
theorem sm_one {j : Nat} (c : Int) : ∀ n, j < n → (sm n fun i => if i = j then c else 0) = c
  | 0, h => by omega
  | n + 1, h => by
    rw [sm_last]
    by_cases e : n = j
    · subst e
      rw [if_pos rfl, sm_congr n (g := fun _ => 0) fun i hi => if_neg (by omega), sm_zero]; omega
    · rw [if_neg e, sm_one c n (by omega)]; omega
/-- the places that p takes -/
def cn (p : Nat → Bool) : Nat → Nat
  | 0 => 0
  | n + 1 => (if p 0 then 1 else 0) + cn (fun i => p (i + 1)) n
def sel (p : Nat → Bool) (v : Nat → Int) (n : Nat) : Int := sm n fun i => if p i then v i else 0
theorem cn_sm (p : Nat → Bool) : ∀ n, ((cn p n : Nat) : Int) = sm n fun i => if p i then 1 else 0
  | 0 => rfl
  | n + 1 => by
    unfold cn sm
    have := cn_sm (fun i => p (i + 1)) n
    dsimp only at this ⊢
    rw [← this]
    split <;> omega
theorem cn_le (p : Nat → Bool) : ∀ n, cn p n ≤ n
  | 0 => Nat.le_refl _
  | n + 1 => by
    unfold cn
    have := cn_le (fun i => p (i + 1)) n
    split <;> omega
theorem cn_congr {p q : Nat → Bool} {n : Nat} (h : ∀ i, i < n → p i = q i) : cn p n = cn q n := by
  have : ((cn p n : Nat) : Int) = cn q n := by
    rw [cn_sm, cn_sm]
    exact sm_congr n fun i hi => by rw [h i hi]
  omega
theorem sel_congr {p q : Nat → Bool} {v w : Nat → Int} {n : Nat} (h : ∀ i, i < n → p i = q i) (h2 : ∀ i, i < n → q i = true → v i = w i) : sel p v n = sel q w n :=
  sm_congr n fun i hi => by
    rw [h i hi]
    by_cases e : q i = true
    · rw [if_pos e, if_pos e, h2 i hi e]
    · rw [if_neg e, if_neg e]
theorem cn_all (n : Nat) : cn (fun _ => true) n = n := by
  induction n with
  | zero => rfl
  | succ n ih => unfold cn; rw [if_pos rfl, ih]; omega
theorem cn_none (n : Nat) : cn (fun _ => false) n = 0 := by
  induction n with
  | zero => rfl
  | succ n ih => unfold cn; rw [ih]; rfl
theorem cn_pos {p : Nat → Bool} {n j : Nat} (hj : j < n) (h : p j = true) : 1 ≤ cn p n := by
  have a := cn_sm p n
  have b : sm n (fun i => if i = j then (1 : Int) else 0) ≤ sm n fun i => if p i then 1 else 0 := sm_le n fun i _ => by
    by_cases e : i = j
    · subst e; rw [h]; simp
    · rw [if_neg e]; split <;> omega
  rw [sm_one 1 n hj] at b
  omega
theorem cn_zero {p : Nat → Bool} {n : Nat} (h : cn p n = 0) : ∀ i, i < n → p i = false := fun i hi => by
  cases e : p i with
  | false => rfl
  | true => have := cn_pos hi e; omega
/-- p with j, without j -/
def wi (p : Nat → Bool) (j : Nat) : Nat → Bool := fun i => p i || decide (i = j)
theorem cn_wi {p : Nat → Bool} {n j : Nat} (hj : j < n) (h : p j = false) : cn (wi p j) n = cn p n + 1 := by
  have : ((cn (wi p j) n : Nat) : Int) = cn p n + 1 := by
    have e1 := sm_one (j := j) 1 n hj
    rw [cn_sm, cn_sm]
    refine Eq.trans (b := sm n (fun i => (if p i then 1 else 0) + if i = j then 1 else 0)) (sm_congr n fun i _ => ?_) (by rw [sm_add, e1])
    unfold wi
    by_cases e : i = j
    · subst e; simp [h]
    · simp [e]
  omega
theorem sel_wi {p : Nat → Bool} {n j : Nat} {v : Nat → Int} (hj : j < n) (h : p j = false) : sel (wi p j) v n = sel p v n + v j := by
  unfold sel
  rw [← sm_one (j := j) (v j) n hj, ← sm_add]
  refine sm_congr n fun i _ => ?_
  unfold wi
  by_cases e : i = j
  · subst e; simp [h]
  · simp [e]
theorem sel_add (p : Nat → Bool) (v w : Nat → Int) (n : Nat) : sel p (fun i => v i + w i) n = sel p v n + sel p w n := by
  unfold sel
  rw [← sm_add]
  exact sm_congr n fun i _ => by cases p i <;> simp
theorem sel_sub (p : Nat → Bool) (v w : Nat → Int) (n : Nat) : sel p (fun i => v i - w i) n = sel p v n - sel p w n := by
  unfold sel
  rw [← sm_sub]
  exact sm_congr n fun i _ => by cases p i <;> simp
theorem sel_le {p : Nat → Bool} {v w : Nat → Int} {n : Nat} (h : ∀ i, i < n → p i = true → v i ≤ w i) : sel p v n ≤ sel p w n :=
  sm_le n fun i hi => by
    by_cases e : p i = true
    · rw [if_pos e, if_pos e]; exact h i hi e
    · rw [if_neg e, if_neg e]; omega
theorem sel_const (p : Nat → Bool) (c : Int) (n : Nat) : sel p (fun _ => c) n = c * cn p n := by
  rw [cn_sm, ← sm_mul]
  exact sm_congr n fun i _ => by cases p i <;> simp
/-- a change at one place -/
theorem sel_at {p : Nat → Bool} {v w : Nat → Int} {n j : Nat} {c : Int} (hj : j < n) (hw : ∀ i, i < n → w i = v i + if i = j then c else 0) : sel p w n = sel p v n + if p j then c else 0 := by
  have e : sel p w n = sel p v n + sel p (fun i => if i = j then c else 0) n := by
    rw [← sel_add]
    exact sel_congr (fun _ _ => rfl) fun i hi _ => hw i hi
  rw [e]
  congr 1
  unfold sel
  rw [← sm_one (j := j) (if p j then c else 0) n hj]
  refine sm_congr n fun i _ => ?_
  by_cases e : i = j
  · subst e; simp
  · simp [e]
/-! ### the sums of the k least -/
def SK (ns : List Int) (k : Nat) : Int := ((sortI ns).take k).sum
theorem SK_zero {ns : List Int} : SK ns 0 = 0 := by unfold SK; simp
def insI (x : Int) : List Int → List Int
  | [] => [x]
  | r :: rs => if x ≤ r then x :: r :: rs else r :: insI x rs
theorem insI_perm (x : Int) : ∀ l : List Int, (insI x l).Perm (x :: l)
  | [] => List.Perm.refl _
  | r :: rs => by
    unfold insI
    split
    · exact List.Perm.refl _
    · exact (List.Perm.cons r (insI_perm x rs)).trans (List.Perm.swap x r rs)
theorem insI_sorted {x : Int} : ∀ {l : List Int}, l.Pairwise (· ≤ ·) → (insI x l).Pairwise (· ≤ ·)
  | [], _ => List.pairwise_singleton _ _
  | r :: rs, h => by
    unfold insI
    rw [List.pairwise_cons] at h
    split
    · rename_i hx
      exact List.pairwise_cons.mpr ⟨fun z hz => by
        rcases List.mem_cons.mp hz with rfl | hz
        · exact hx
        · exact Int.le_trans hx (h.1 z hz), List.pairwise_cons.mpr h⟩
    · rename_i hx
      refine List.pairwise_cons.mpr ⟨fun z hz => ?_, insI_sorted h.2⟩
      rcases List.mem_cons.mp ((insI_perm x rs).mem_iff.mp hz) with rfl | hz
      · omega
      · exact h.1 z hz
theorem insI_sort (x : Int) (ns : List Int) : sortI (x :: ns) = insI x (sortI ns) :=
  (sortI_is ((insI_perm x _).trans (List.Perm.cons x (sortI_perm ns))) (insI_sorted (sortI_pw ns))).symm
theorem take_next {a : Int} : ∀ {s : List Int} (k : Nat), (a :: s).Pairwise (· ≤ ·) → k + 1 ≤ s.length → a + (s.take k).sum ≤ (s.take (k + 1)).sum
  | [], k, _, h => by simp at h
  | b :: s, 0, h, _ => by simp at h ⊢; exact h.1.1
  | b :: s, k + 1, h, hl => by
    rw [List.pairwise_cons] at h
    have hb := h.1 b (by simp)
    have h2 := h.2
    have := take_next (a := b) k h2 (by simp at hl; omega)
    simp only [List.take_succ_cons, List.sum_cons] at this ⊢
    omega
theorem insI_take (x : Int) : ∀ {s : List Int} (k : Nat), s.Pairwise (· ≤ ·) → k + 1 ≤ s.length → ((insI x s).take (k + 1)).sum = min (s.take (k + 1)).sum (x + (s.take k).sum)
  | [], k, _, h => by simp at h
  | r :: s, k, h, hl => by
    unfold insI
    by_cases hx : x ≤ r
    · rw [if_pos hx, List.take_succ_cons, List.sum_cons]
      have := take_next (a := x) (s := r :: s) k (List.pairwise_cons.mpr ⟨fun z hz => by
        rcases List.mem_cons.mp hz with rfl | hz
        · exact hx
        · exact Int.le_trans hx ((List.pairwise_cons.mp h).1 z hz), h⟩) hl
      omega
    · rw [if_neg hx]
      cases k with
      | zero => simp; omega
      | succ k =>
        have ih := insI_take x (s := s) k (List.pairwise_cons.mp h).2 (by simp at hl; omega)
        simp only [List.take_succ_cons, List.sum_cons] at ih ⊢
        omega
theorem sum_perm {a b : List Int} (h : a.Perm b) : a.sum = b.sum := by
  induction h with
  | nil => rfl
  | cons x _ ih => simp [ih]
  | swap x y l => simp; omega
  | trans _ _ i1 i2 => exact i1.trans i2
theorem SK_all {ns : List Int} {k : Nat} (h : ns.length ≤ k) : SK ns k = ns.sum := by
  unfold SK
  rw [List.take_of_length_le (by rw [sortI_len]; exact h), sum_perm (sortI_perm ns)]
theorem SK_cons (x : Int) (ns : List Int) (k : Nat) (h : k + 1 ≤ ns.length) : SK (x :: ns) (k + 1) = min (SK ns (k + 1)) (x + SK ns k) := by
  unfold SK
  rw [insI_sort, insI_take x k (sortI_pw ns) (by rw [sortI_len]; exact h)]
theorem SK_consL (x : Int) (ns : List Int) (k : Nat) (h : k = ns.length) : SK (x :: ns) (k + 1) = x + SK ns k := by
  rw [SK_all (by simp; omega), SK_all (by omega)]; simp
theorem SK_cons_le (x : Int) (ns : List Int) (k : Nat) (h : k ≤ ns.length) : SK (x :: ns) (k + 1) ≤ x + SK ns k := by
  by_cases e : k = ns.length
  · rw [SK_consL x ns k e]; omega
  · rw [SK_cons x ns k (by omega)]; omega
theorem SK_cons_le2 (x : Int) (ns : List Int) (k : Nat) (h : k ≤ ns.length) : SK (x :: ns) k ≤ SK ns k := by
  cases k with
  | zero => rw [SK_zero, SK_zero]; omega
  | succ k => rw [SK_cons x ns k h]; omega
/-- the places of a list -/
def at0 (ns : List Int) (i : Nat) : Int := ns.getD i 0
theorem at0_cons {x : Int} {ns : List Int} : (fun i => at0 (x :: ns) (i + 1)) = at0 ns := by funext i; simp [at0]
theorem SK_le : ∀ (ns : List Int) (p : Nat → Bool), SK ns (cn p ns.length) ≤ sel p (at0 ns) ns.length
  | [], p => by simp [cn, sel, sm, SK_zero]
  | x :: ns, p => by
    have ih := SK_le ns fun i => p (i + 1)
    have hc := cn_le (fun i => p (i + 1)) ns.length
    unfold sel at ih ⊢
    rw [List.length_cons]
    unfold cn sm
    have e : (fun i => if p (i + 1) = true then at0 (x :: ns) (i + 1) else 0) = fun i => if p (i + 1) = true then at0 ns i else 0 := by
      funext i; rw [← congrFun (at0_cons (x := x) (ns := ns)) i]
    rw [e]
    have e0 : at0 (x :: ns) 0 = x := rfl
    dsimp only
    rw [e0]
    dsimp only at ih
    by_cases h : p 0 = true
    · rw [if_pos h, if_pos h]
      have := SK_cons_le x ns _ hc
      rw [Nat.add_comm]
      omega
    · rw [if_neg h, if_neg h]
      have := SK_cons_le2 x ns _ hc
      rw [Nat.zero_add]
      omega
theorem SK_get : ∀ (ns : List Int) (k : Nat), k ≤ ns.length → ∃ p : Nat → Bool, cn p ns.length = k ∧ sel p (at0 ns) ns.length = SK ns k
  | [], k, h => ⟨fun _ => false, by simp at h; simp [cn, h], by simp at h; simp [sel, sm, h, SK_zero]⟩
  | x :: ns, k, h => by
    have sh : ∀ (c : Bool) (p : Nat → Bool), cn (fun i => match i with | 0 => c | i + 1 => p i) (ns.length + 1) = (if c then 1 else 0) + cn p ns.length ∧
        sel (fun i => match i with | 0 => c | i + 1 => p i) (at0 (x :: ns)) (ns.length + 1) = (if c then x else 0) + sel p (at0 ns) ns.length := fun c p => by
      refine ⟨by rw [cn], ?_⟩
      unfold sel
      rw [sm]
      dsimp only
      congr 1
    have lo : ∀ k, k ≤ ns.length → SK (x :: ns) k = SK ns k → ∃ p : Nat → Bool, cn p (x :: ns).length = k ∧ sel p (at0 (x :: ns)) (x :: ns).length = SK (x :: ns) k := fun k hk e => by
      obtain ⟨p, c, s⟩ := SK_get ns k hk
      obtain ⟨a, b⟩ := sh false p
      exact ⟨_, by rw [List.length_cons, a, c]; simp, by rw [List.length_cons, b, s, e]; simp⟩
    have hi : ∀ k, k ≤ ns.length → SK (x :: ns) (k + 1) = x + SK ns k → ∃ p : Nat → Bool, cn p (x :: ns).length = k + 1 ∧ sel p (at0 (x :: ns)) (x :: ns).length = SK (x :: ns) (k + 1) := fun k hk e => by
      obtain ⟨p, c, s⟩ := SK_get ns k hk
      obtain ⟨a, b⟩ := sh true p
      exact ⟨_, by rw [List.length_cons, a, c]; simp; omega, by rw [List.length_cons, b, s, e]; simp⟩
    cases k with
    | zero => exact lo 0 (by omega) (by rw [SK_zero, SK_zero])
    | succ k =>
      by_cases e : k = ns.length
      · exact hi k (by omega) (SK_consL x ns k e)
      · simp at h
        have q := SK_cons x ns k (by omega)
        by_cases m : SK ns (k + 1) ≤ x + SK ns k
        · exact lo (k + 1) (by omega) (by omega)
        · exact hi k (by omega) (by omega)
/-! ### thresholds -/
def Rr (b : Int) : Nat → Int
  | 0 => 0
  | k + 1 => row b k
theorem Rr_succ {b : Int} {k : Nat} (h : 1 ≤ k) : Rr b (k + 1) = Rr b k + b + (Rr b k - 1) / (k : Int) := by
  cases k with
  | zero => omega
  | succ k =>
    show row b k + (row b k - 1) / ((k : Int) + 1) + b = row b k + b + (row b k - 1) / ((k + 1 : Nat) : Int)
    rw [Int.natCast_succ]; omega
theorem div_lo {a k : Int} (hk : 0 < k) : k * (a / k) ≤ a ∧ a < k * (a / k) + k := by
  have h := Int.emod_add_mul_ediv a k
  have h1 := Int.emod_nonneg a (Int.ne_of_gt hk)
  have h2 := Int.emod_lt_of_pos a hk
  omega
theorem Rr_sq {b : Int} (hb : 1 ≤ b) : ∀ k : Nat, Rr b k ≤ b * ((k : Int) * k)
  | 0 => by simp [Rr]
  | 1 => by show b ≤ _; simp
  | k + 2 => by
    rw [Rr_succ (by omega)]
    have ih := Rr_sq hb (k + 1)
    have d := div_lo (a := Rr b (k + 1) - 1) (k := ((k + 1 : Nat) : Int)) (by omega)
    have q : (Rr b (k + 1) - 1) / ((k + 1 : Nat) : Int) ≤ b * ((k + 1 : Nat) : Int) := by
      have : (Rr b (k + 1) - 1) / ((k + 1 : Nat) : Int) < b * ((k + 1 : Nat) : Int) + 1 := by
        rw [Int.ediv_lt_iff_lt_mul (by omega)]
        have : (b * ((k + 1 : Nat) : Int) + 1) * ((k + 1 : Nat) : Int) = b * (((k + 1 : Nat) : Int) * ((k + 1 : Nat) : Int)) + ((k + 1 : Nat) : Int) := by
          rw [Int.add_mul, Int.mul_assoc]; omega
        omega
      omega
    have e : b * (((k + 2 : Nat) : Int) * ((k + 2 : Nat) : Int)) = b * (((k + 1 : Nat) : Int) * ((k + 1 : Nat) : Int)) + b * ((k + 1 : Nat) : Int) + b * ((k + 1 : Nat) : Int) + b := by
      have : ((k + 2 : Nat) : Int) = ((k + 1 : Nat) : Int) + 1 := by omega
      rw [this, Int.add_mul, Int.mul_add]
      simp only [Int.mul_add, Int.mul_one, Int.one_mul]
      omega
    have : 0 ≤ b * ((k + 1 : Nat) : Int) := Int.mul_nonneg (by omega) (by omega)
    rw [e]
    omega
/-! ### safe balances -/
def Safe (b : Int) (v : Nat → Int) (n : Nat) : Prop := ∀ p : Nat → Bool, Rr b (cn p n) ≤ sel p v n
theorem gap_iff {ns : List Int} {b : Int} : gapI ns b = none ↔ Safe b (at0 ns) ns.length := by
  unfold gapI
  rw [List.find?_eq_none]
  constructor
  · intro h p
    have a := SK_le ns p
    have c := cn_le p ns.length
    cases e : cn p ns.length with
    | zero =>
      have z := cn_zero e
      have : sel p (at0 ns) ns.length = 0 := by
        unfold sel
        rw [sm_congr _ (g := fun _ => 0) fun i hi => by rw [z i hi]; rfl, sm_zero]
      rw [this]; exact Int.le_refl _
    | succ k =>
      have := h k (by simp; omega)
      simp only [decide_eq_true_eq, Int.not_lt] at this
      rw [e] at a
      exact Int.le_trans this a
  · intro h i hi
    simp only [decide_eq_true_eq, Int.not_lt]
    have hi : i < ns.length := by simpa using hi
    obtain ⟨p, c, s⟩ := SK_get ns (i + 1) (by omega)
    have := h p
    rw [c, s] at this
    exact this
theorem Safe.mono {b : Int} {v w : Nat → Int} {n : Nat} (h : Safe b v n) (e : ∀ i, i < n → v i ≤ w i) : Safe b w n := fun p =>
  Int.le_trans (h p) (sel_le fun i hi _ => e i hi)
/-- after each demand the grant to a least balance -/
theorem Safe.grant {b : Int} {v c w : Nat → Int} {n j : Nat} (h : Safe b v n) (hb : 1 ≤ b) (hd : ∀ i, i < n → c i ≤ v i) (hs : sm n v - sm n c ≤ b)
    (hj : j < n) (hm : ∀ i, i < n → c j ≤ c i) (hw : ∀ i, i < n → w i = c i + if i = j then b else 0) : Safe b w n := by
  have loss : ∀ p, sel p v n - b ≤ sel p c n := fun p => by
    have a : sel p (fun i => v i - c i) n ≤ sm n (fun i => v i - c i) := by
      unfold sel
      exact sm_le n fun i hi => by
        have := hd i hi
        dsimp only
        split <;> omega
    rw [sel_sub, sm_sub] at a
    omega
  intro p
  rw [sel_at hj hw]
  cases hpj : p j with
  | true =>
    have := loss p
    have := h p
    simp; omega
  | false =>
    simp only [Bool.false_eq_true, if_false, Int.add_zero]
    cases e : cn p n with
    | zero =>
      have z := cn_zero e
      have : sel p c n = 0 := by
        unfold sel
        rw [sm_congr _ (g := fun _ => 0) fun i hi => by rw [z i hi]; rfl, sm_zero]
      rw [this]; exact Int.le_refl _
    | succ k =>
      have a := loss (wi p j)
      have s := h (wi p j)
      rw [cn_wi hj hpj, e, Rr_succ (by omega)] at s
      rw [sel_wi (v := c) hj hpj] at a
      have m : c j * ((k + 1 : Nat) : Int) ≤ sel p c n := by
        have := sel_le (p := p) (v := fun _ => c j) (w := c) (n := n) fun i hi _ => hm i hi
        rwa [sel_const, e] at this
      apply Int.not_lt.mp
      intro lt
      have q : c j ≤ (Rr b (k + 1) - 1) / ((k + 1 : Nat) : Int) := by
        rw [Int.le_ediv_iff_mul_le (by omega)]
        omega
      omega
end Mi
-- Spa
set_option Elab.async false
set_option linter.all false
set_option maxRecDepth 100000
set_option maxHeartbeats 2000000
namespace Mi
open PySem L2 PyProof.Rows PySem.Spec
theorem g_isN' {h : Hs} {Q : D → Prop} {d : D} (q : Q (.bl (isNon h d))) : Gt (gIsN h d .non) Q := ⟨_, rfl, q⟩
theorem g_notN' {h : Hs} {Q : D → Prop} {d : D} (q : Q (.bl (!isNon h d))) : Gt (gNotN h d .non) Q := ⟨_, rfl, q⟩
theorem cutD_to {xs : List D} {c : Nat} : cutD xs none (some (c : Int)) = xs.take c := cutD_take
theorem cutD_from {xs : List D} {c : Nat} : cutD xs (some (c : Int)) none = xs.drop c := by
  unfold cutD
  rw [HT.sIx_nat, HT.sIx_none]
  by_cases h : c ≤ xs.length
  · rw [Nat.min_eq_left h, List.take_of_length_le (by simp)]
  · rw [Nat.min_eq_right (by omega), List.drop_eq_nil_of_le (Nat.le_refl _), List.drop_eq_nil_of_le (by omega)]; simp
theorem g_slT_to {α : Type} {h : Hs} {Q : D → Prop} {l : List α} {f : α → D} {c : Nat} (q : Q (.tup ((l.take c).map f))) : Gt (gSl h (.tup (l.map f)) none (some (c : Int))) Q := g_sl_tup rfl (by rw [cutD_to, ← List.map_take]; exact q)
theorem g_slT_from {α : Type} {h : Hs} {Q : D → Prop} {l : List α} {f : α → D} {c : Nat} (q : Q (.tup ((l.drop c).map f))) : Gt (gSl h (.tup (l.map f)) (some (c : Int)) none) Q := g_sl_tup rfl (by rw [cutD_from, ← List.map_drop]; exact q)
theorem g_slL_to {α : Type} {h : Hs} {Q : D → Prop} {l : List α} {f : α → D} {c : Nat} (q : Q (.lst ((l.take c).map f))) : Gt (gSl h (.lst (l.map f)) none (some (c : Int))) Q := g_sl_lst rfl (by rw [cutD_to, ← List.map_take]; exact q)
theorem g_slL_from {α : Type} {h : Hs} {Q : D → Prop} {l : List α} {f : α → D} {c : Nat} (q : Q (.lst ((l.drop c).map f))) : Gt (gSl h (.lst (l.map f)) (some (c : Int)) none) Q := g_sl_lst rfl (by rw [cutD_from, ← List.map_drop]; exact q)
theorem g_lenT {α : Type} {h : Hs} {Q : D → Prop} {l : List α} {f : α → D} (q : Q (.int (l.length : Int))) : Gt (gLen h [.tup (l.map f)]) Q := g_len rfl (by rw [List.length_map]; exact q)
theorem g_lenL {α : Type} {h : Hs} {Q : D → Prop} {l : List α} {f : α → D} (q : Q (.int (l.length : Int))) : Gt (gLen h [.lst (l.map f)]) Q := g_len rfl (by rw [List.length_map]; exact q)
theorem g_tupL {h : Hs} {Q : D → Prop} {l : List D} (q : Q (.tup l)) : Gt (gTup h [.lst l]) Q := g_tup rfl q
theorem g_tupT {h : Hs} {Q : D → Prop} {l : List D} (q : Q (.tup l)) : Gt (gTup h [.tup l]) Q := g_tup rfl q
theorem g_sumL {h : Hs} {Q : D → Prop} {l : List Int} (q : Q (.int l.sum)) : Gt (gSum h [.lst (l.map .int)]) Q := g_sum rfl q
theorem g_sumT {h : Hs} {Q : D → Prop} {l : List Int} (q : Q (.int l.sum)) : Gt (gSum h [.tup (l.map .int)]) Q := g_sum rfl q
theorem ex_par {a b : D} {P : D → D → Prop} (q : P a b) : ∃ x y, [a, b] = [x, y] ∧ P x y := ⟨_, _, rfl, q⟩
theorem g_listT {h : Hs} {Q : List D → Prop} {l : List D} (q : Q l) : Gt (gList h [.tup l]) Q := g_list rfl q
theorem if_ff {A B : Prop} (q : B) : (false = true → A) ∧ (false = false → B) := ⟨fun c => (nomatch c), fun _ => q⟩
theorem if_tt {A B : Prop} (q : A) : (true = true → A) ∧ (true = false → B) := ⟨fun _ => q, fun c => (nomatch c)⟩
local macro_rules | `(tactic| fail) => `(tactic| first
  | with_reducible refine wp_op ?_
  | ((with_reducible refine wp_var ?_); refine gs_rfl ?_)
  | with_reducible refine wp_c ?_
  | with_reducible refine wp_cons ?_
  | with_reducible refine wp_nil ?_
  | with_reducible refine wp_cb ?_
  | with_reducible refine wp_cbn ?_
  | with_reducible refine wp_tst ?_
  | with_reducible refine wp_if ?_
  | with_reducible refine wp_un ?_
  | with_reducible refine wp_new ?_
  | with_reducible refine wp_box ?_
  | with_reducible refine wp_and ?_
  | with_reducible refine wp_or ?_
  | with_reducible refine wp_not ?_
  | with_reducible refine wp_sl ?_
  | with_reducible refine wp_call ?_
  | with_reducible refine wp_tup ?_
  | with_reducible refine wp_lst ?_
  | with_reducible refine wp_part ?_
  | with_reducible refine wp_mt ?_
  | with_reducible refine wp_iter ?_
  | with_reducible refine wp_range1 ?_
  | with_reducible refine wp_range2 ?_
  | with_reducible refine and_sz (by exact Nat.le_of_ble_eq_true rfl) ?_
  | with_reducible refine ws_seq ?_
  | with_reducible refine ws_set ?_
  | with_reducible refine ws_if ?_
  | with_reducible refine ws_ret ?_
  | with_reducible refine ws_drop ?_
  | with_reducible refine ws_nil ?_
  | with_reducible refine ws_par ?_
  | with_reducible refine ws_asg ?_
  | with_reducible refine tg_st ?_
  | with_reducible refine tg_n ?_
  | with_reducible refine g_add ?_
  | with_reducible refine g_sub ?_
  | with_reducible refine g_neg ?_
  | with_reducible refine g_lt ?_
  | with_reducible refine g_gt ?_
  | with_reducible refine g_le ?_
  | with_reducible refine g_ge ?_
  | with_reducible refine g_eq ?_
  | with_reducible refine g_ne ?_
  | with_reducible refine g_eqS ?_
  | with_reducible refine g_neS ?_
  | with_reducible refine g_tst ?_
  | with_reducible refine g_abs ?_
  | with_reducible refine g_int ?_
  | with_reducible refine g_intB ?_
  | with_reducible refine g_max2 ?_
  | with_reducible refine g_min2 ?_
  | with_reducible refine g_mul ?_ ?_
  | with_reducible refine g_div ?_ ?_
  | with_reducible refine g_mod ?_ ?_
  | with_reducible refine g_pow ?_ ?_
  | ((with_reducible apply g_ix); (first | assumption | exact rfl); (first | assumption | exact rfl))
  | with_reducible refine g_lenT ?_
  | with_reducible refine g_lenL ?_
  | ((with_reducible apply g_len); (first | assumption | exact rfl))
  | with_reducible refine g_tupL ?_
  | with_reducible refine g_tupT ?_
  | with_reducible refine g_sumT ?_
  | with_reducible refine g_sumL ?_
  | with_reducible refine g_append ?_ ?_
  | ((with_reducible apply g_addT); (first | assumption | exact rfl); (first | assumption | exact rfl); (simp <;> omega))
  | with_reducible refine g_slT_to ?_
  | with_reducible refine g_slT_from ?_
  | with_reducible refine g_slL_to ?_
  | with_reducible refine g_slL_from ?_
  | with_reducible refine wp_idx ?_
  | with_reducible refine g_isN' ?_
  | with_reducible refine g_notN' ?_
  | with_reducible refine ex_par ?_
  | with_reducible refine if_ff ?_
  | with_reducible refine if_tt ?_
  | with_reducible refine g_listT ?_
  | with_reducible exact True.intro
  | with_reducible exact And.intro rfl rfl
  | dsimp only [List.set])
open Co Enc
section
variable {h hp hp' h1 h2 : Hs} {d x y : D} {xs ds : List D} {n k c : Nat} {Q : D → Hs → Prop} {g t m T T' b R : Int} {body : MS} {env : Env} {ns ms : List Int} {bs : List (List D)}
/-! ### boxes of one's own, behind the caller's -/
structure Bx (n : Nat) (T : Int) (hp h : Hs) (bs : List (List D)) : Prop where
  len : h.length = hp.length + bs.length
  at_ : ∀ i l, bs[i]? = some l → h[hp.length + i]? = some (some (.lst l))
  H : Hn h n T
  eq : ∀ i, i < hp.length → i ≠ n → h[i]? = hp[i]?
theorem Bx.start (H : Hn hp n T) : Bx n T hp hp [] := ⟨by simp, fun i l e => by simp at e, H, fun _ _ _ => rfl⟩
theorem Bx.mono (B : Bx n T hp h bs) (hT : T ≤ T') : Bx n T' hp h bs := ⟨B.len, B.at_, B.H.mono hT, B.eq⟩
theorem Bx.sm (B : Bx n T hp h bs) (hn : n < hp.length) (S : Sm n h h2) (H2 : Hn h2 n T') : Bx n T' hp h2 bs :=
  ⟨S.len.trans B.len, fun i l e => by rw [S.eq _ (by omega)]; exact B.at_ i l e, H2, fun i hi hne => by rw [S.eq _ hne]; exact B.eq i hi hne⟩
theorem Bx.push (B : Bx n T hp h bs) (l : List D) : Bx n T hp (h ++ [some (.lst l)]) (bs ++ [l]) := by
  have hl := B.len
  refine ⟨by simp; omega, fun i z e => ?_, B.H.app, fun i hi hne => ?_⟩
  · by_cases hi : i < bs.length
    · rw [List.getElem?_append_left hi] at e
      rw [List.getElem?_append_left (by omega)]; exact B.at_ i z e
    · rw [List.getElem?_append_right (by omega)] at e
      have : i = bs.length := by
        have := (List.getElem?_eq_some_iff.mp e).1
        simp at this; omega
      subst this
      simp at e; subst e
      rw [show hp.length + bs.length = h.length by omega]; exact List.getElem?_concat_length
  · rw [List.getElem?_append_left (by omega)]; exact B.eq i hi hne
theorem Bx.set {i : Nat} (B : Bx n T hp h bs) (hn : n < hp.length) (hi : i < bs.length) (l : List D) : Bx n T hp (h.set (hp.length + i) (some (.lst l))) (bs.set i l) := by
  have hl := B.len
  refine ⟨by simp; omega, fun j z e => ?_, B.H.set (by omega), fun j hj hne => ?_⟩
  · by_cases hij : i = j
    · subst hij
      rw [List.getElem?_set_self hi] at e; cases e
      rw [List.getElem?_set_self (by omega)]
    · rw [List.getElem?_set_ne hij] at e
      rw [List.getElem?_set_ne (by omega)]; exact B.at_ j z e
  · rw [List.getElem?_set_ne (by omega)]; exact B.eq j hj hne
/-- a def that gives out a new box -/
theorem Bx.box {l : List D} (B : Bx n T hp h bs) (hn : n < hp.length) (a : h2[h.length]? = some (some (.lst l))) (hl : h2.length = h.length + 1) (H2 : Hn h2 n T') (e : ∀ i, i < h.length → i ≠ n → h2[i]? = h[i]?) : Bx n T' hp h2 (bs ++ [l]) := by
  have hb := B.len
  refine ⟨by simp; omega, fun i z e' => ?_, H2, fun i hi hne => by rw [e i (by omega) hne]; exact B.eq i hi hne⟩
  by_cases hi : i < bs.length
  · rw [List.getElem?_append_left hi] at e'
    rw [e _ (by omega) (by omega)]; exact B.at_ i z e'
  · rw [List.getElem?_append_right (by omega)] at e'
    have : i = bs.length := by
      have := (List.getElem?_eq_some_iff.mp e').1
      simp at this; omega
    subst this
    simp at e'; subst e'
    rw [show hp.length + bs.length = h.length by omega]; exact a
theorem Bx.seq {i : Nat} {l : List D} (B : Bx n T hp h bs) (e : bs[i]? = some l) : seqv h (.loc (hp.length + i)) = some l := seqv_loc (B.at_ i l e)
theorem Bx.lk {i : Nat} {l : List D} (B : Bx n T hp h bs) (e : bs[i]? = some l) : look h (.loc (hp.length + i)) = .lst l := look_loc (B.at_ i l e)
theorem Bx.keeps (B : Bx n T hp h bs) : keepsB hp.length hp h := fun i o hi e => by
  by_cases hin : i = n
  · subst hin
    obtain ⟨g, x, t, Hh, _⟩ := B.H
    rw [Hh.at_] at e
    cases e
    exact .inr rfl
  · rw [B.eq i hi hin] at e; exact .inl e
theorem Bx.tk (B : Bx n T hp h bs) (hn : n < hp.length) : Hn (h.take hp.length) n T ∧ Sm n hp (h.take hp.length) :=
  ⟨B.H.take hn, ⟨by rw [List.length_take]; have := B.len; omega, fun i hi => by
    by_cases hl : i < hp.length
    · rw [List.getElem?_take_of_lt hl]; exact B.eq i hl hi
    · rw [List.getElem?_eq_none (by rw [List.length_take]; omega), List.getElem?_eq_none (by omega)]⟩⟩
/-- the end of a def with a hand -/
theorem Bx.fin (B : Bx n T hp h bs) (hn : n < hp.length) (cl : Clo d) (q : ∀ h', Hn h' n T → Sm n hp h' → Q d h') : keepsB hp.length hp h ∧ ∃ d', ice hp.length none h 8 d = some d' ∧ Q d' (h.take hp.length) :=
  ⟨B.keeps, d, cl _ _ _, q _ (B.tk hn).1 (B.tk hn).2⟩
theorem set_cat {α : Type} {l : List α} {j : Nat} {z : α} (hj : j < l.length) : l.take j ++ z :: l.drop (j + 1) = l.set j z := by
  rw [List.set_eq_take_append_cons_drop, if_pos hj]
theorem at0_get {i : Nat} (hi : i < ns.length) : ns[i]? = some (at0 ns i) := by
  unfold at0; rw [List.getD_eq_getElem?_getD, List.getElem?_eq_getElem hi]; rfl
theorem at0_set {i j : Nat} {z : Int} (hj : j < ns.length) : at0 (ns.set j z) i = if i = j then z else at0 ns i := by
  unfold at0
  rw [List.getD_eq_getElem?_getD, List.getD_eq_getElem?_getD, List.getElem?_set]
  by_cases e : j = i
  · subst e; rw [if_pos rfl, if_pos hj, if_pos rfl]; rfl
  · rw [if_neg e, if_neg (by omega)]
theorem at_int {j : Nat} (hj : j < ns.length) : atI (ns.map D.int) (j : Int) = some (.int (at0 ns j)) := ints_atI (at0_get hj) rfl
def chg (ns : List Int) (j : Nat) (b : Int) : List Int := ns.set j (at0 ns j + b)
@[simp] theorem chg_len {j : Nat} : (chg ns j b).length = ns.length := by simp [chg]
theorem chg_at {i j : Nat} (hj : j < ns.length) : at0 (chg ns j b) i = at0 ns i + if i = j then b else 0 := by
  unfold chg
  rw [at0_set hj]
  by_cases e : i = j
  · subst e; simp
  · simp [e]
theorem changed_pu {j : Nat} (hj : j < ns.length) (hl : ns.length < 100000) : Pu f_changed [.tup (ns.map .int), .int (j : Int), .int b] (.tup ((chg ns j b).map .int)) := fun hp => by
  refine fs_cut (fs_run [some (.tup (ns.map .int)), some (.int (j : Int)), some (.int b)] rfl ?_)
  unfold m_changed
  have sl : sizeLine = 2 ^ 24 := rfl
  repeat fail
  refine ⟨_, rfl, ?_⟩
  repeat fail
  refine g_ix rfl (at_int hj) ?_
  repeat fail
  refine ⟨_, rfl, ?_⟩
  repeat fail
  rw [show ((j : Int) + 1) = ((j + 1 : Nat) : Int) by omega]
  repeat fail
  have e : List.map D.int (List.take j ns) ++ [D.int (at0 ns j + b)] ++ List.map D.int (List.drop (j + 1) ns) = (chg ns j b).map .int := by
    unfold chg
    rw [← set_cat hj]; simp
  rw [e]
  exact fin_eq clo_tup
theorem wp_opN {a b : M D} {g : Hs → D → D → Option (List D)} {Q : List D → Hs → Prop} (q : Wp a env hp fun x h1 => Wp b env h1 fun y h2 => Gt (g h2 x y) fun d => Q d h2) : Wp (mOpN g a b) env hp Q :=
  Wp.bnd (q.mono fun _ _ q => Wp.bnd (q.mono fun _ _ q => Wp.lft q))
theorem rep_flat {α : Type} {z : α} {c : Nat} : (List.replicate c [z]).flatten = List.replicate c z := by
  induction c with
  | zero => rfl
  | succ c ih => rw [List.replicate_succ, List.flatten_cons, ih]; rfl
theorem g_mulN {h : Hs} {Q : List D → Prop} {z : D} {c : Nat} (h1 : (c : Int) < 2 ^ 63) (h2 : c ≤ sizeLine) (q : Q (List.replicate c z)) : Gt (gMulN h (.lst [z]) (.int c)) Q := by
  refine ⟨_, ?_, q⟩
  unfold gMulN
  simp only [look_lst, look_int]
  rw [if_pos ⟨by omega, h1, by simpa using h2⟩, Int.toNat_natCast, rep_flat]
theorem sm_sum : ∀ ns : List Int, sm ns.length (at0 ns) = ns.sum
  | [] => rfl
  | x :: ns => by
    rw [List.length_cons, sm, List.sum_cons, at0_cons, sm_sum ns]; rfl
theorem chg_sum {j : Nat} (hj : j < ns.length) : (chg ns j b).sum = ns.sum + b := by
  rw [← sm_sum, ← sm_sum, chg_len]
  have e := sm_one (j := j) b ns.length hj
  refine Eq.trans (sm_congr _ fun i _ => chg_at (b := b) hj) ?_
  rw [sm_add, e]
theorem sum_nn {f : List Int} (h : ∀ i, i < f.length → 0 ≤ at0 f i) : 0 ≤ f.sum := by
  rw [← sm_sum, ← sm_zero f.length]; exact sm_le _ h
theorem sum_rep0 {c : Nat} : (List.replicate c (0 : Int)).sum = 0 := by
  induction c with
  | zero => rfl
  | succ c ih => rw [List.replicate_succ, List.sum_cons, ih]; rfl
/-! ### the first least one -/
theorem minI_mem {l : List Int} (h : l ≠ []) : minI l ∈ l ∧ ∀ z ∈ l, minI l ≤ z := by
  cases l with
  | nil => exact absurd rfl h
  | cons a l =>
    show l.foldl min a ∈ _ ∧ ∀ z ∈ _, l.foldl min a ≤ z
    refine ⟨?_, fun z hz => ?_⟩
    · rcases foldl_min_in l a with e | e
      · rw [e]; simp
      · exact List.mem_cons_of_mem _ e
    · rcases List.mem_cons.mp hz with rfl | hz
      · exact (foldl_min_le l z).1
      · exact (foldl_min_le l a).2 z hz
theorem g_minI {h : Hs} {x : D} {Q : D → Prop} (e : seqv h x = some (ns.map .int)) (h0 : ns ≠ []) (q : Q (.int (minI ns))) : Gt (gMin h [x]) Q := by
  cases ns with
  | nil => exact absurd rfl h0
  | cons a l => exact ⟨_, by unfold gMin; dsimp only; rw [e]; dsimp only; rw [ints_map], q⟩
/-- the place of the first least one -/
def argm (ns : List Int) : Nat := (ns.findIdx? fun y => decide (y = minI ns)).getD 0
theorem argm_ok (h : ns ≠ []) : (ns.findIdx? fun y => decide (y = minI ns)) = some (argm ns) ∧ argm ns < ns.length ∧ at0 ns (argm ns) = minI ns ∧ (∀ i, i < argm ns → at0 ns i ≠ minI ns) ∧ ∀ i, i < ns.length → at0 ns (argm ns) ≤ at0 ns i := by
  obtain ⟨m1, m2⟩ := minI_mem h
  cases e : ns.findIdx? fun y => decide (y = minI ns) with
  | none =>
    rw [List.findIdx?_eq_none_iff] at e
    have := e _ m1
    simp at this
  | some j =>
    have e1 : argm ns = j := by unfold argm; rw [e]; rfl
    rw [e1]
    rw [List.findIdx?_eq_some_iff_getElem] at e
    obtain ⟨hj, p, q⟩ := e
    have a : ∀ i (hi : i < ns.length), at0 ns i = ns[i] := fun i hi => by
      unfold at0; rw [List.getD_eq_getElem?_getD, List.getElem?_eq_getElem hi]; rfl
    refine ⟨rfl, hj, by rw [a j hj]; simpa using p, fun i hi => ?_, fun i hi => ?_⟩
    · have := q i hi
      rw [a i (by omega)]; simpa using this
    · rw [a j hj, a i hi]
      have p : ns[j] = minI ns := by simpa using p
      rw [p]
      exact m2 _ (List.getElem_mem hi)
theorem g_idxT {h : Hs} {Q : D → Prop} (h0 : ns ≠ []) (q : Q (.int (argm ns : Int))) : Gt (gIdx h (.tup (ns.map .int)) [.int (minI ns)]) Q := by
  refine ⟨_, ?_, q⟩
  unfold gIdx
  dsimp only [look]
  rw [ints_map]
  dsimp only
  rw [(argm_ok h0).1]
theorem g_idxL {h : Hs} {x : D} {Q : D → Prop} (e : look h x = .lst (ns.map .int)) (h0 : ns ≠ []) (q : Q (.int (argm ns : Int))) : Gt (gIdx h x [.int (minI ns)]) Q := by
  refine ⟨_, ?_, q⟩
  unfold gIdx
  dsimp only
  rw [e]
  dsimp only
  have p1 : (D.lst (ns.map .int)).py = some (.list (ns.map .int)) := hpy (Ls.mk ns)
  rw [p1, show (look h (.int (minI ns))).py = some (.int (minI ns)) from rfl]
  dsimp only
  rw [if_pos ⟨enc_shp (Ls.mk ns) (by decide), enc_shp (minI ns) (by decide)⟩]
  have : ((ns.map PyData.int).findIdx? fun y => PyData.eqv y (.int (minI ns))) = some (argm ns) := by
    rw [List.findIdx?_map, ← (argm_ok h0).1]
    congr 1
  rw [this]
theorem best_pu (h0 : ns ≠ []) : Pu f_best_grant [.tup (ns.map .int)] (.int (argm ns : Int)) := fun hp => by
  refine fs_cut (fs_run [some (.tup (ns.map .int))] rfl ?_)
  unfold m_best_grant
  repeat fail
  refine ⟨_, rfl, ?_⟩
  repeat fail
  refine g_minI rfl h0 ?_
  repeat fail
  refine g_idxT h0 ?_
  exact fin_eq clo_int
def okG (ns : List Int) (b : Int) (j : Nat) : Bool := (gapI (chg ns j b) b).isNone
def goodI (ns : List Int) (b : Int) : List Nat := (List.range ns.length).filter (okG ns b)
theorem good_pu (hl : ns.length < 100000) : Pu f_good_grants [.tup (ns.map .int), .int b] (.tup (((goodI ns b).map fun i : Nat => (i : Int)).map .int)) := fun hp => by
  refine fs_cut (fs_run [some (.tup (ns.map .int)), some (.int b), none] rfl ?_)
  unfold m_good_grants
  have sl : sizeLine = 2 ^ 24 := rfl
  repeat fail
  refine wp_compF (List.range ns.length) (fun i : Nat => .int (i : Int)) (okG ns b) (fun i : Nat => .int (i : Int)) ?_
  repeat fail
  refine ⟨_, rfl, ⟨by omega, by omega⟩, by rw [rng0]; simp, trivial, by simp; omega, fun i hi => ?_, ?_⟩
  · have hi : i < ns.length := by simpa using hi
    refine tg_n ⟨rfl, ?_⟩
    dsimp only [wipeE, List.set]
    repeat fail
    refine ⟨rfl, (changed_pu hi hl).fs ?_⟩
    repeat fail
    refine ⟨rfl, (is_safe_sp (.inr rfl) (by simpa using hl)).mono ?_⟩
    rintro d h ⟨rfl, rfl⟩
    repeat fail
    refine ⟨rfl, rfl, fun _ => ?_⟩
    repeat fail
  · repeat fail
    have e : List.map (fun i : Nat => D.int (i : Int)) (List.filter (okG ns b) (List.range ns.length)) = ((goodI ns b).map fun i : Nat => (i : Int)).map .int := by
      unfold goodI; rw [List.map_map]; rfl
    rw [e]
    exact fin_eq clo_tup
/-! ### the law's own helpers -/
theorem law_gap_sq (hx : seqv hp x = some (ns.map .int)) (hl : ns.length < 100000) : Fs f__law_gap [x, .int b] hp fun d h => d = gapN ns b ∧ h = hp := by
  refine fs_cut (fs_run [some x, some (.int b), none, none, none, none] rfl ?_)
  unfold m__law_gap
  have sl : sizeLine = 2 ^ 24 := rfl
  repeat fail
  refine ws_for (wp_enumZ ?_)
  repeat fail
  refine g_sorted (ns := ns) hx ?_
  repeat fail
  rw [List.length_map]
  refine ⟨rfl, (rows_sp hl).mono ?_⟩
  rintro d h ⟨rfl, rfl⟩
  refine wp_nil ⟨_, _, _, _, rfl, rfl, rfl, ?_⟩
  refine ⟨fun i e h' => ∃ e3 e4 e5, e = [some x, some (.int b), some (.int ((sortI ns).take i).sum), e3, e4, e5] ∧ h' = h ∧ ∀ j, j < i → decide (psum ns j < row b j) = false, ⟨_, _, _, rfl, rfl, fun j hj => absurd hj (Nat.not_lt_zero j)⟩, fun _ _ _ _ _ => ⟨trivial, trivial⟩, ?_, ?_⟩
  · rintro i z e h' hz ⟨e3, e4, e5, rfl, rfl, hj⟩
    obtain ⟨z, ez, hi, rfl⟩ := zip_lgap hz
    refine tg_tup2 (tg_n (tg_tup2 (tg_n (tg_n ?_))))
    dsimp only [List.set]
    repeat fail
    rw [← psum_next ez]
    refine ⟨fun c => ?_, fun c => ?_⟩
    · repeat fail
      refine ⟨keepsB_refl, _, rfl, ?_, List.take_of_length_le (Nat.le_refl _)⟩
      unfold gapN gapI
      rw [find_first hi hj c]
    · repeat fail
      refine ⟨_, _, _, rfl, rfl, fun j hj2 => ?_⟩
      rcases Nat.lt_succ_iff_lt_or_eq.mp hj2 with q | rfl
      · exact hj j q
      · exact c
  · rintro e h' ⟨e3, e4, e5, rfl, rfl, hj⟩
    have hlen : (enumD 0 (zipD ((sortI ns).map .int) ((rowsL b ns.length).map .int))).length = ns.length := by rw [enumD_len, zipD_len]; simp [sortI_len]
    rw [hlen] at hj
    repeat fail
    refine ⟨keepsB_refl, _, rfl, ?_, List.take_of_length_le (Nat.le_refl _)⟩
    unfold gapN gapI
    rw [find_none hj]
theorem isNon_gapN : isNon h (gapN ns b) = (gapI ns b).isNone := by
  unfold gapN isNon
  cases gapI ns b <;> rfl
/-- the law's balances after a demand and a grant -/
def subL (ns ms : List Int) : List Int := (ns.zip ms).map fun a => a.1 - a.2
theorem subL_len (h : ns.length = ms.length) : (subL ns ms).length = ns.length := by simp [subL, h]
theorem subL_at (h : ns.length = ms.length) (i : Nat) : at0 (subL ns ms) i = at0 ns i - at0 ms i := by
  unfold at0 subL
  rw [List.getD_eq_getElem?_getD, List.getD_eq_getElem?_getD, List.getD_eq_getElem?_getD, List.getElem?_map]
  by_cases hi : i < ns.length
  · rw [List.getElem?_eq_getElem (l := ns.zip ms) (by simp; omega), List.getElem?_eq_getElem hi, List.getElem?_eq_getElem (l := ms) (by omega)]
    simp
  · rw [List.getElem?_eq_none (l := ns.zip ms) (by simp; omega), List.getElem?_eq_none (l := ns) (by omega), List.getElem?_eq_none (l := ms) (by omega)]; rfl
theorem after_pu {j : Nat} (hy : Ints y ms) (hx : Ints x ns) (hl : ns.length = ms.length) (hj : j < ns.length) (hl2 : ns.length < 100000) : Pu f__law_after [x, y, .int (j : Int), .int b] (.tup ((chg (subL ns ms) j b).map .int)) := fun hp => by
  refine fs_cut (fs_run [some x, some y, some (.int (j : Int)), some (.int b), none, none, none] rfl ?_)
  unfold m__law_after
  have sl : sizeLine = 2 ^ 24 := rfl
  have hlen := subL_len hl
  repeat fail
  refine wp_compA (ns.zip ms) (fun a => .itm [.int a.1, .int a.2]) (fun a => .int (a.1 - a.2)) ?_
  refine wp_zip ?_
  repeat fail
  refine ⟨_, _, _, _, rfl, hx.seqv _, hy.seqv _, zipE, ⟨hx.keep _ _, hy.keep _ _⟩, by simp; omega, fun a ha => ?_, ?_⟩
  · refine tg_tup2 (tg_n (tg_n ⟨rfl, ?_⟩))
    dsimp only [wipeE, List.set]
    repeat fail
  · have e : List.map (fun a : Int × Int => D.int (a.1 - a.2)) (ns.zip ms) = (subL ns ms).map .int := by unfold subL; rw [List.map_map]; rfl
    rw [e]
    repeat fail
    refine g_ix box_seqv (at_int (by omega)) ?_
    repeat fail
    refine ⟨_, _, _, j, rfl, rfl, List.getElem?_concat_length, ?_, ?_⟩
    · rw [List.length_map]; exact ixN_nat (by omega)
    · rw [box_set]
      repeat fail
      refine g_tup box_seqv ?_
      have e2 : (List.map D.int (subL ns ms)).set j (.int (at0 (subL ns ms) j + b)) = (chg (subL ns ms) j b).map .int := by unfold chg; rw [List.map_set]
      rw [e2]
      exact fin_eqA clo_tup
/-- a drawn demand -/
theorem demand_sp (hn : n < hp.length) (H : Hn hp n T) (hT : T < 2 ^ 48) (hc : 1 ≤ c) (hc2 : c ≤ 1000) (hb : 0 ≤ b) (hb2 : b < 2 ^ 40) :
    Fs f__law_demand [.loc n, .int c, .int b] hp fun d h => ∃ ms : List Int, d = .tup (ms.map .int) ∧ ms.length = c ∧ (∀ i, i < c → 0 ≤ at0 ms i) ∧ sm c (at0 ms) ≤ b ∧ Hn h n (T + 2 * b) ∧ Sm n hp h := by
  refine fs_cut (fs_run [some (.loc n), some (.int c), some (.int b), none, none, none, none] rfl ?_)
  unfold m__law_demand
  have sl : sizeLine = 2 ^ 24 := rfl
  repeat fail
  refine wp_opN ?_
  repeat fail
  refine g_mulN (by omega) (by omega) ?_
  repeat fail
  have st1 : Bx n (T + 2 * (b - b)) hp (hp ++ [some (.lst (List.replicate c (.int 0)))]) [(List.replicate c (0 : Int)).map .int] := by
    have := (Bx.start H).push ((List.replicate c (0 : Int)).map .int)
    rw [List.map_replicate] at this ⊢
    exact this.mono (by omega)
  have st2 : ∀ i, i < c → 0 ≤ at0 (List.replicate c (0 : Int)) i := fun i hi => by
    unfold at0; rw [List.getD_eq_getElem?_getD, List.getElem?_replicate, if_pos hi]; exact Int.le_refl _
  have st3 : (List.replicate c (0 : Int)).sum + b ≤ b := by rw [sum_rep0]; omega
  refine while_inv (fun k e h => ∃ (f : List Int) (l : Int) (e5 e6 : Option D), e = [some (.loc n), some (.int c), some (.int b), some (.loc hp.length), some (.int l), e5, e6] ∧ Bx n (T + 2 * (b - l)) hp h [f.map .int] ∧ f.length = c ∧ (∀ i, i < c → 0 ≤ at0 f i) ∧ f.sum + l ≤ b ∧ 0 ≤ l ∧ l.toNat ≤ k) ?_ _ b.toNat _ _ (by omega) (by exact ⟨List.replicate c 0, b, none, none, rfl, st1, by simp, st2, st3, hb, Nat.le_refl _⟩)
  · rintro k e h ⟨f, l, e5, e6, rfl, B, fl, f0, fs, l0, lk⟩
    have fn : 0 ≤ f.sum := sum_nn (by rw [fl]; exact f0)
    repeat fail
    refine ⟨fun cl => ?_, fun cl => ?_⟩
    · have cl : 0 < l := by simpa using cl
      refine ⟨k - 1, by omega, ?_⟩
      repeat fail
      refine ⟨rfl, (take_sp B.H (by omega) cl (by omega)).mono ?_⟩
      rintro d h2 ⟨r, rfl, r0, r1, H2, S2⟩
      have B2 := B.sm hn S2 H2
      repeat fail
      refine ⟨rfl, (take_sp B2.H (by omega) (by omega) (by omega)).mono ?_⟩
      rintro d h3 ⟨q, rfl, q0, q1, H3, S3⟩
      have B3 := B2.sm hn S3 H3
      obtain ⟨j, rfl⟩ := Int.eq_ofNat_of_zero_le q0
      refine ws_seqM (fun e h => ∃ f' : List Int, e = [some (.loc n), some (.int c), some (.int b), some (.loc hp.length), some (.int l), some (.int (1 + r)), some (.int (j : Int))] ∧ Bx n (T + 2 * (b - l) + 1 + 1) hp h [f'.map .int] ∧ f'.length = c ∧ (∀ i, i < c → 0 ≤ at0 f' i) ∧ f'.sum ≤ f.sum + (1 + r)) ?_ ?_
      · repeat fail
        refine ⟨fun cj => ?_, fun cj => ?_⟩
        · have hj : j < f.length := by simp at cj; omega
          repeat fail
          refine g_ix (B3.seq (i := 0) rfl) (at_int hj) ?_
          repeat fail
          refine ⟨_, _, _, j, rfl, rfl, B3.at_ 0 _ rfl, by rw [List.length_map]; exact ixN_nat hj, ?_⟩
          have B4 := B3.set hn (i := 0) (by simp) ((chg f j (1 + r)).map .int)
          have e : (f.map D.int).set j (.int (at0 f j + (1 + r))) = (chg f j (1 + r)).map .int := by unfold chg; rw [List.map_set]
          rw [e]
          repeat fail
          refine ⟨chg f j (1 + r), rfl, B4, by simp [fl], fun i hi => ?_, ?_⟩
          · rw [chg_at hj]; have := f0 i hi; split <;> omega
          · rw [chg_sum hj]; omega
        · repeat fail
          exact ⟨f, rfl, B3, fl, f0, by omega⟩
      · rintro e h4 ⟨f', rfl, B4, fl', f0', fs'⟩
        repeat fail
        exact ⟨f', l - (1 + r), _, _, rfl, B4.mono (by omega), fl', f0', by omega, by omega, by omega⟩
    · have cl : ¬ 0 < l := by simpa using cl
      repeat fail
      refine g_tup (B.seq (i := 0) rfl) ?_
      refine ⟨B.keeps, _, clo_tup _ _ _, f, rfl, fl, f0, by rw [← fl, sm_sum]; omega, (B.tk hn).1.mono (by omega), (B.tk hn).2⟩
/-! ### safe ones near the limit -/
theorem bd_iff : Bd ns c R ↔ ns.length = c ∧ ∀ i, i < c → 0 ≤ at0 ns i ∧ at0 ns i ≤ R := by
  constructor
  · intro h
    refine ⟨h.1, fun i hi => ?_⟩
    exact h.2 i _ (at0_get (by rw [h.1]; exact hi))
  · rintro ⟨h, q⟩
    refine ⟨h, fun i z e => ?_⟩
    have hi := (List.getElem?_eq_some_iff.mp e).1
    have := at0_get hi
    rw [e] at this
    cases this
    exact q i (by omega)
def pot (R : Int) (c : Nat) (f : List Int) : Int := sm c fun i => max 0 (R - at0 f i)
theorem pot_nn {f : List Int} : 0 ≤ pot R c f := by
  have := sm_le (f := fun _ => 0) (g := fun i => max 0 (R - at0 f i)) c fun i _ => by omega
  rwa [sm_zero] at this
theorem pot_le {f : List Int} (hR : 0 ≤ R) (h : ∀ i, i < c → 0 ≤ at0 f i) : pot R c f ≤ R * c := by
  have e : (sm c fun _ => R) = R * c := by
    have := sm_mul R (fun _ => 1) c
    rw [show (sm c fun i => R * 1) = sm c fun _ => R from sm_congr _ fun _ _ => Int.mul_one R] at this
    rw [this]
    congr 1
    have := cn_sm (fun _ => true) c
    rw [cn_all] at this
    rw [this]
    exact sm_congr _ fun _ _ => rfl
  unfold pot
  rw [← e]
  exact sm_le _ fun i hi => by have := h i hi; omega
theorem pot_dec {f : List Int} {j : Nat} {z : Int} (hl : f.length = c) (hj : j < c) (hz : 1 ≤ z) (hR : at0 f j < R) : pot R c (chg f j z) + 1 ≤ pot R c f := by
  have e := sm_one (j := j) 1 c hj
  unfold pot
  have : (sm c fun i => max 0 (R - at0 (chg f j z) i) + if i = j then 1 else 0) ≤ sm c fun i => max 0 (R - at0 f i) := sm_le _ fun i _ => by
    rw [chg_at (by omega)]
    by_cases e : i = j
    · subst e; simp; omega
    · simp [e]
  rw [sm_add, e] at this
  exact this
theorem gap_min {i : Nat} (h : gapI ns b = some i) (h0 : ∀ j, j < ns.length → 0 ≤ at0 ns j) (hR : ∀ j, j < ns.length → row b j ≤ R) : i < ns.length ∧ minI ns < R := by
  unfold gapI at h
  have hi : i < ns.length := by have := List.mem_of_find?_eq_some h; simpa using this
  have hp := List.find?_some h
  simp only [decide_eq_true_eq] at hp
  have hne : ns ≠ [] := fun e => by subst e; simp at hi
  refine ⟨hi, ?_⟩
  obtain ⟨p, pc, ps⟩ := SK_get ns (i + 1) (by omega)
  have := hR i hi
  have hm : minI ns * ((i + 1 : Nat) : Int) ≤ sel p (at0 ns) ns.length := by
    have := sel_le (p := p) (v := fun _ => minI ns) (w := at0 ns) (n := ns.length) fun k hk _ => (minI_mem hne).2 _ (List.mem_of_getElem? (at0_get hk))
    rwa [sel_const, pc] at this
  rw [ps] at hm
  have e : psum ns i = SK ns (i + 1) := rfl
  have m0 : 0 ≤ minI ns := by
    obtain ⟨_, a2, a3, _⟩ := argm_ok hne
    rw [← a3]; exact h0 _ a2
  have : minI ns * 1 ≤ minI ns * ((i + 1 : Nat) : Int) := Int.mul_le_mul_of_nonneg_left (by omega) m0
  omega
theorem safe_ones_sp (hn : n < hp.length) (H : Hn hp n T) (hT : T < 2 ^ 47) (hc : 1 ≤ c) (hc2 : c ≤ 1000) (hb : 1 ≤ b) (hR0 : 0 ≤ R) (hR : ∀ i, i < c → row b i ≤ R) (hRc : R * c < 2 ^ 48) :
    Fs f__law_safe_ones [.loc n, .int c, .int b] hp fun d h => ∃ ms : List Int, d = .tup (ms.map .int) ∧ Bd ms c (R + 6 * c + b + 3) ∧ gapI ms b = none ∧ Hn h n (T + 8 * c + 1 + R * c) ∧ Sm n hp h := by
  refine fs_cut (fs_run [some (.loc n), some (.int c), some (.int b), none, none] rfl ?_)
  unfold m__law_safe_ones
  have sl : sizeLine = 2 ^ 24 := rfl
  repeat fail
  refine ⟨rfl, (near_sp hn H (by omega) hc hc2 hb hR0 hR).mono ?_⟩
  rintro d h ⟨ms, rfl, B0, H1, S1⟩
  repeat fail
  have C0 := ((Bx.start H).sm hn S1 H1).push (ms.map .int)
  have l1 : h.length = hp.length + 0 := S1.len
  rw [l1]
  have d0 := bd_iff.mp B0
  have p0 := pot_le hR0 fun i hi => (d0.2 i hi).1
  have pn := pot_nn (R := R) (c := c) (f := ms)
  refine while_inv (fun k e h => ∃ (f : List Int) (e4 : Option D), e = [some (.loc n), some (.int c), some (.int b), some (.loc (hp.length + 0)), e4] ∧ Bx n (T + 8 * c + 1 + (pot R c ms - pot R c f)) hp h [f.map .int] ∧ Bd f c (R + 6 * c + b + 3) ∧ (pot R c f).toNat ≤ k ∧ pot R c f ≤ pot R c ms) ?_ _ (pot R c ms).toNat _ _ (by omega) (by exact ⟨ms, none, rfl, C0.mono (by omega), B0, Nat.le_refl _, Int.le_refl _⟩)
  rintro k e h ⟨f, e4, rfl, B, Bf, lk, lp⟩
  obtain ⟨fl, fb⟩ := bd_iff.mp Bf
  have pf := pot_nn (R := R) (c := c) (f := f)
  have hne : f ≠ [] := fun e => by subst e; simp at fl; omega
  obtain ⟨_, a2, a3, _, _⟩ := argm_ok hne
  repeat fail
  refine ⟨rfl, (law_gap_sq (B.seq (i := 0) rfl) (by omega)).mono ?_⟩
  rintro d h2 ⟨rfl, rfl⟩
  repeat fail
  rw [isNon_gapN]
  refine ⟨fun cg => ?_, fun cg => ?_⟩
  · obtain ⟨i, hg⟩ : ∃ i, gapI f b = some i := by
      cases e : gapI f b with
      | none => rw [e] at cg; simp at cg
      | some i => exact ⟨i, rfl⟩
    have gm := (gap_min hg (fun j hj => (fb j (by omega)).1) fun j hj => hR j (by omega)).2
    have hlt : at0 f (argm f) < R := by omega
    have d1 : pot R c f ≥ 1 := by
      have := pot_dec (z := 1) fl (by omega) (by omega) hlt
      have := pot_nn (R := R) (c := c) (f := chg f (argm f) 1)
      omega
    refine ⟨k - 1, by omega, ?_⟩
    repeat fail
    refine ⟨_, B.seq (i := 0) rfl, ?_⟩
    repeat fail
    refine g_minI (B.seq (i := 0) rfl) hne ?_
    repeat fail
    refine g_idxL (B.lk (i := 0) rfl) hne ?_
    repeat fail
    refine g_ix (B.seq (i := 0) rfl) (at_int a2) ?_
    repeat fail
    refine ⟨rfl, (take_sp B.H (by omega) (by omega) (by omega)).mono ?_⟩
    rintro d h3 ⟨r, rfl, r0, r1, H3, S3⟩
    have B3 := B.sm hn S3 H3
    repeat fail
    refine ⟨_, _, _, argm f, rfl, rfl, B3.at_ 0 _ rfl, by rw [List.length_map]; exact ixN_nat a2, ?_⟩
    have dec := pot_dec (z := 1 + r) fl (by omega) (by omega) hlt
    have B4 := B3.set hn (i := 0) (by simp) ((chg f (argm f) (1 + r)).map .int)
    have e : (f.map D.int).set (argm f) (.int (at0 f (argm f) + 1 + r)) = (chg f (argm f) (1 + r)).map .int := by unfold chg; rw [List.map_set, Int.add_assoc]
    rw [e]
    repeat fail
    refine ⟨chg f (argm f) (1 + r), _, rfl, B4.mono (by omega), bd_iff.mpr ⟨by simp [fl], fun i hi => ?_⟩, by omega, by omega⟩
    rw [chg_at a2]
    have := fb i hi
    split
    · rename_i e; subst e; omega
    · omega
  · have cg : gapI f b = none := by simpa using cg
    repeat fail
    refine g_tup (B.seq (i := 0) rfl) ?_
    refine ⟨B.keeps, _, clo_tup _ _ _, f, rfl, Bf, cg, (B.tk hn).1.mono (by omega), (B.tk hn).2⟩
end
end Mi
-- Spb
set_option Elab.async false
set_option linter.all false
set_option maxRecDepth 100000
set_option maxHeartbeats 2000000
namespace Mi
open PySem L2 PyProof.Rows PySem.Spec
local macro_rules | `(tactic| fail) => `(tactic| first
  | with_reducible refine wp_op ?_
  | ((with_reducible refine wp_var ?_); refine gs_rfl ?_)
  | with_reducible refine wp_c ?_
  | with_reducible refine wp_cons ?_
  | with_reducible refine wp_nil ?_
  | with_reducible refine wp_cb ?_
  | with_reducible refine wp_cbn ?_
  | with_reducible refine wp_tst ?_
  | with_reducible refine wp_if ?_
  | with_reducible refine wp_un ?_
  | with_reducible refine wp_new ?_
  | with_reducible refine wp_box ?_
  | with_reducible refine wp_and ?_
  | with_reducible refine wp_or ?_
  | with_reducible refine wp_not ?_
  | with_reducible refine wp_sl ?_
  | with_reducible refine wp_call ?_
  | with_reducible refine wp_tup ?_
  | with_reducible refine wp_lst ?_
  | with_reducible refine wp_part ?_
  | with_reducible refine wp_mt ?_
  | with_reducible refine wp_iter ?_
  | with_reducible refine wp_range1 ?_
  | with_reducible refine wp_range2 ?_
  | with_reducible refine and_sz (by exact Nat.le_of_ble_eq_true rfl) ?_
  | with_reducible refine ws_seq ?_
  | with_reducible refine ws_set ?_
  | with_reducible refine ws_if ?_
  | with_reducible refine ws_ret ?_
  | with_reducible refine ws_drop ?_
  | with_reducible refine ws_nil ?_
  | with_reducible refine ws_par ?_
  | with_reducible refine ws_asg ?_
  | with_reducible refine tg_st ?_
  | with_reducible refine tg_n ?_
  | with_reducible refine g_add ?_
  | with_reducible refine g_sub ?_
  | with_reducible refine g_neg ?_
  | with_reducible refine g_lt ?_
  | with_reducible refine g_gt ?_
  | with_reducible refine g_le ?_
  | with_reducible refine g_ge ?_
  | with_reducible refine g_eq ?_
  | with_reducible refine g_ne ?_
  | with_reducible refine g_eqS ?_
  | with_reducible refine g_neS ?_
  | with_reducible refine g_tst ?_
  | with_reducible refine g_abs ?_
  | with_reducible refine g_int ?_
  | with_reducible refine g_intB ?_
  | with_reducible refine g_max2 ?_
  | with_reducible refine g_min2 ?_
  | with_reducible refine g_mul ?_ ?_
  | with_reducible refine g_div ?_ ?_
  | with_reducible refine g_mod ?_ ?_
  | with_reducible refine g_pow ?_ ?_
  | ((with_reducible apply g_ix); (first | assumption | exact rfl); (first | assumption | exact rfl))
  | with_reducible refine g_lenT ?_
  | with_reducible refine g_lenL ?_
  | ((with_reducible apply g_len); (first | assumption | exact rfl))
  | with_reducible refine g_tupL ?_
  | with_reducible refine g_tupT ?_
  | with_reducible refine g_sumT ?_
  | with_reducible refine g_sumL ?_
  | with_reducible refine g_append ?_ ?_
  | ((with_reducible apply g_addT); (first | assumption | exact rfl); (first | assumption | exact rfl); (simp <;> omega))
  | with_reducible refine g_slT_to ?_
  | with_reducible refine g_slT_from ?_
  | with_reducible refine g_slL_to ?_
  | with_reducible refine g_slL_from ?_
  | with_reducible refine wp_idx ?_
  | with_reducible refine g_isN' ?_
  | with_reducible refine g_notN' ?_
  | with_reducible refine ex_par ?_
  | with_reducible refine if_ff ?_
  | with_reducible refine if_tt ?_
  | with_reducible refine g_listT ?_
  | with_reducible exact True.intro
  | with_reducible exact And.intro rfl rfl
  | dsimp only [List.set])
open Co Enc
section
variable {h hp hp' h1 h2 : Hs} {d x y : D} {xs ds : List D} {n k c : Nat} {Q : D → Prop} {g t m T T' b R : Int} {body : MS} {env : Env} {ns ms : List Int} {bs : List (List D)}
theorem any_same {i : Int} : ((ns.map D.int).any fun z => sameD z (.int i)) = decide (i ∈ ns) := by
  rw [List.any_map]
  induction ns with
  | nil => rfl
  | cons a l ih =>
    rw [List.any_cons, ih]
    have : ((fun z => sameD z (D.int i)) ∘ D.int) a = decide (a = i) := by simp only [Function.comp, sameD]; by_cases e : a = i <;> simp [e]
    rw [this]
    by_cases e : a = i
    · subst e; simp
    · simp [e, Ne.symm e]
theorem all_flat : (ns.map D.int).all flatD = true := by
  rw [List.all_eq_true]; intro d hd; obtain ⟨i, _, rfl⟩ := List.mem_map.mp hd; rfl
theorem inD_ints {i : Int} (e : look h y = .lst (ns.map .int) ∨ look h y = .tup (ns.map .int)) : inD h (.int i) y = some (decide (i ∈ ns)) := by
  unfold inD
  rcases e with e | e
  all_goals
    rw [e]
    simp only [look_int]
    rw [show seqv h _ = some (ns.map .int) from rfl]
    dsimp only
    rw [if_pos ⟨rfl, all_flat⟩, any_same]
theorem g_inT {i : Int} (q : Q (.bl (decide (i ∈ ns)))) : Gt (gIn h (.int i) (.tup (ns.map .int))) Q := ⟨_, by unfold gIn; rw [inD_ints (.inr rfl)], q⟩
theorem g_inL {i : Int} (q : Q (.bl (decide (i ∈ ns)))) : Gt (gIn h (.int i) (.lst (ns.map .int))) Q := ⟨_, by unfold gIn; rw [inD_ints (.inl rfl)], q⟩
theorem g_ninT {i : Int} (q : Q (.bl (!decide (i ∈ ns)))) : Gt (gNotIn h (.int i) (.tup (ns.map .int))) Q := ⟨_, by unfold gNotIn; rw [inD_ints (.inr rfl)], q⟩
theorem g_mulT {z : D} {c : Nat} (h1 : c ≤ 1000) (q : Q (.tup (List.replicate c z))) : Gt (gMul h (.tup [z]) (.int c)) Q := by
  refine ⟨_, ?_, q⟩
  unfold gMul
  simp only [look_tup, look_int]
  rw [if_pos ⟨by omega, by omega, by simp⟩, Int.toNat_natCast, rep_flat]
/-! ### how laws go -/
/-- for k in range(..): hand = ..; body; return True -/
theorem lawA {E : Nat} {N : Int} {BODY : MS} (hN : 1 ≤ N ∧ N ≤ 3)
    (st : ∀ (s k : D) (n : Nat) (rest : List (Option D)) (h : Hs), rest.length = E → n < h.length → Hn h n 0 → Ws BODY (some s :: some k :: some (.loc n) :: rest) h ⟨fun e _ => ∃ x y r, e = some s :: x :: y :: r ∧ r.length = E, fun _ _ => False, fun _ _ => False, fun _ _ => False⟩) :
    LawOk 63 (runB (E + 3) (sSeq (sFor (mRange1 (mCons (mCB gMax (mCons (mC (.int 1)) (mCons (mCB gMin (mCons (mC (.int N)) (mCons (mCB gLen (mCons (mVar 0) mNil)) mNil))) mNil))) mNil)) (gN 1)
      (sSeq (sSet 2 (mCall 2 f__law_hand (mCons (mVar 0) (mCons (mVar 1) mNil)))) BODY)) (sSeq (sRet (mC (.bl true))) sNil))) := by
  intro ns hl
  have : Fs (runB (E + 3) (sSeq (sFor (mRange1 (mCons (mCB gMax (mCons (mC (.int 1)) (mCons (mCB gMin (mCons (mC (.int N)) (mCons (mCB gLen (mCons (mVar 0) mNil)) mNil))) mNil))) mNil)) (gN 1)
      (sSeq (sSet 2 (mCall 2 f__law_hand (mCons (mVar 0) (mCons (mVar 1) mNil)))) BODY)) (sSeq (sRet (mC (.bl true))) sNil))) [.frz (ns.map .int)] [] fun d _ => d = .bl true := by
    refine fs_run (some (.frz (ns.map .int)) :: List.replicate (E + 2) none) (by simp) ?_
    have s0 : ∀ h, seqv h (.frz (ns.map .int)) = some (ns.map .int) := fun _ => rfl
    refine ws_seq (ws_for ?_)
    repeat fail
    rw [List.length_map]
    generalize hM : (if (if (ns.length : Int) < N then (ns.length : Int) else N) > 1 then (if (ns.length : Int) < N then (ns.length : Int) else N) else 1) = M
    have hM2 : 0 ≤ M ∧ M ≤ 3 := by
      subst hM
      split <;> split <;> omega
    refine ⟨M, rfl, ⟨by omega, by omega⟩, ?_⟩
    refine ⟨fun i e h => ∃ x y r, e = some (.frz (ns.map .int)) :: x :: y :: r ∧ r.length = E, ⟨none, none, List.replicate E none, by rw [List.replicate_succ, List.replicate_succ], by simp⟩, fun _ _ _ _ _ => trivial, ?_, ?_⟩
    · rintro i x e h hx ⟨a, a2, r, rfl, hr⟩
      obtain ⟨hi, rfl⟩ := rngD_get hx
      refine tg_n ?_
      repeat fail
      refine ⟨rfl, (hand_sp (by omega) (by omega) (by omega)).mono ?_⟩
      rintro d h1 ⟨rfl, o, eh, H⟩
      exact (st _ _ _ r h1 hr (by rw [eh]; simp) H).mono (fun e h ⟨x, y, r, e1, e2⟩ => ⟨x, y, r, e1, e2⟩) (fun _ _ z => z.elim) (fun _ _ z => z.elim) (fun _ _ z => z.elim)
    · rintro e h ⟨a, a2, r, rfl, hr⟩
      repeat fail
  obtain ⟨d, hp', e, rfl⟩ := this
  exact ⟨hp', e⟩
theorem row_bd2 {B : Int} {i C : Nat} (hb : 1 ≤ b) (hB : b ≤ B) (hi : i < C) : 1 ≤ row b i ∧ row b i ≤ B * (C * C) := by
  refine ⟨(row_bd hb i).1, ?_⟩
  have := Rr_sq hb (i + 1)
  refine Int.le_trans this (Int.mul_le_mul hB (Int.mul_le_mul (by omega) (by omega) (by omega) (by omega)) (Int.mul_nonneg (by omega) (by omega)) (by omega))
theorem rng0N {i n : Nat} {x : D} (h : (rngD 0 n)[i]? = some x) : i < n ∧ x = .int (i : Int) := by
  obtain ⟨h1, rfl⟩ := rngD_get h
  exact ⟨h1, by rw [Int.zero_add]⟩
end
end Mi
-- Spc
set_option Elab.async false
set_option linter.all false
set_option maxRecDepth 100000
set_option maxHeartbeats 2000000
namespace Mi
open PySem L2 PyProof.Rows PySem.Spec
theorem ex_par3 {a b c : D} {P : D → D → D → Prop} (q : P a b c) : ∃ x y z, [a, b, c] = [x, y, z] ∧ P x y z := ⟨_, _, _, rfl, q⟩
theorem ex_bl {k : Bool} {P : Bool → Prop} (q : P k) : ∃ k', D.bl k = .bl k' ∧ P k' := ⟨_, rfl, q⟩
theorem ex_int {k : Int} {P : Int → Prop} (q : P k) : ∃ k', D.int k = .int k' ∧ P k' := ⟨_, rfl, q⟩
theorem ex_int1 {k : Int} {P : Int → Prop} (q : P k) : ∃ k', [D.int k] = [.int k'] ∧ P k' := ⟨_, rfl, q⟩
theorem if_ntt {A B : Prop} (q : B) : ((!true) = true → A) ∧ ((!true) = false → B) := ⟨fun c => (nomatch c), fun _ => q⟩
theorem if_nff {A B : Prop} (q : A) : ((!false) = true → A) ∧ ((!false) = false → B) := ⟨fun _ => q, fun c => (nomatch c)⟩
local macro_rules | `(tactic| fail) => `(tactic| first
  | with_reducible refine wp_op ?_
  | ((with_reducible refine wp_var ?_); refine gs_rfl ?_)
  | with_reducible refine wp_c ?_
  | with_reducible refine wp_cons ?_
  | with_reducible refine wp_nil ?_
  | with_reducible refine wp_cb ?_
  | with_reducible refine wp_cbn ?_
  | with_reducible refine wp_tst ?_
  | with_reducible refine wp_if ?_
  | with_reducible refine wp_un ?_
  | with_reducible refine wp_new ?_
  | with_reducible refine wp_box ?_
  | with_reducible refine wp_and ?_
  | with_reducible refine wp_or ?_
  | with_reducible refine wp_not ?_
  | with_reducible refine wp_sl ?_
  | with_reducible refine wp_call ?_
  | with_reducible refine wp_tup ?_
  | with_reducible refine wp_lst ?_
  | with_reducible refine wp_part ?_
  | with_reducible refine wp_mt ?_
  | with_reducible refine wp_iter ?_
  | with_reducible refine wp_range1 ?_
  | with_reducible refine wp_range2 ?_
  | with_reducible refine and_sz (by exact Nat.le_of_ble_eq_true rfl) ?_
  | with_reducible refine ws_seq ?_
  | with_reducible refine ws_set ?_
  | with_reducible refine ws_if ?_
  | with_reducible refine ws_ret ?_
  | with_reducible refine ws_drop ?_
  | with_reducible refine ws_nil ?_
  | with_reducible refine ws_par ?_
  | with_reducible refine ws_asg ?_
  | with_reducible refine tg_st ?_
  | with_reducible refine tg_n ?_
  | with_reducible refine g_add ?_
  | with_reducible refine g_sub ?_
  | with_reducible refine g_neg ?_
  | with_reducible refine g_lt ?_
  | with_reducible refine g_gt ?_
  | with_reducible refine g_le ?_
  | with_reducible refine g_ge ?_
  | with_reducible refine g_eq ?_
  | with_reducible refine g_ne ?_
  | with_reducible refine g_eqS ?_
  | with_reducible refine g_neS ?_
  | with_reducible refine g_tst ?_
  | with_reducible refine g_abs ?_
  | with_reducible refine g_int ?_
  | with_reducible refine g_intB ?_
  | with_reducible refine g_max2 ?_
  | with_reducible refine g_min2 ?_
  | with_reducible refine g_mul ?_ ?_
  | with_reducible refine g_div ?_ ?_
  | with_reducible refine g_mod ?_ ?_
  | with_reducible refine g_pow ?_ ?_
  | ((with_reducible apply g_ix); (first | assumption | exact rfl); (first | assumption | exact rfl))
  | with_reducible refine g_lenT ?_
  | with_reducible refine g_lenL ?_
  | ((with_reducible apply g_len); (first | assumption | exact rfl))
  | with_reducible refine g_tupL ?_
  | with_reducible refine g_tupT ?_
  | with_reducible refine g_sumT ?_
  | with_reducible refine g_sumL ?_
  | with_reducible refine g_append ?_ ?_
  | ((with_reducible apply g_addT); (first | assumption | exact rfl); (first | assumption | exact rfl); (simp <;> omega))
  | with_reducible refine g_slT_to ?_
  | with_reducible refine g_slT_from ?_
  | with_reducible refine g_slL_to ?_
  | with_reducible refine g_slL_from ?_
  | with_reducible refine wp_idx ?_
  | with_reducible refine g_isN' ?_
  | with_reducible refine g_notN' ?_
  | with_reducible refine ex_par ?_
  | with_reducible refine if_ff ?_
  | with_reducible refine if_tt ?_
  | with_reducible refine g_listT ?_
  | with_reducible exact True.intro
  | with_reducible exact And.intro rfl rfl
  | dsimp only [List.set])
open Co Enc
section
variable {h hp hp' h1 h2 : Hs} {d x y : D} {xs ds : List D} {n k c : Nat} {Q : D → Prop} {g t m T T' b R : Int} {body : MS} {env : Env} {ns ms : List Int} {bs : List (List D)}
/-- a list of two -/
structure Lp (α β : Type) where
  a : α
  b : β
deriving DecidableEq
instance {α β : Type} [Enc α] [Enc β] : Enc (Lp α β) where
  enc x := .lst [enc x.a, enc x.b]
  py x := .list [py x.a, py x.b]
  dep := max (dep α) (dep β) + 1
  sz x := sz x.a + sz x.b + 2
  bd k x := bd k x.a ∧ bd k x.b
  hpy x := by rw [D.py, D.pyAll, D.pyAll, D.pyAll, hpy, hpy]
  lay x := by
    have a := lay x.a
    have b := lay x.b
    exact ⟨by rw [PyData.canLay0, PyData.canLayAll0, PyData.canLayAll0, PyData.canLayAll0, a.1, b.1]; rfl, by rw [PyData.depth, PyData.depthAll, PyData.depthAll, PyData.depthAll]; have := a.2; have := b.2; omega⟩
  nice k x h0 h1 h := (Nice.lst (NiceL.cons ((nice k x.a h0 h1 h.1).mono (Nat.le_refl _) (Nat.le_max_left _ _)) (NiceL.cons ((nice k x.b h0 h1 h.2).mono (Nat.le_refl _) (Nat.le_max_right _ _)) (NiceL.nil.mono (Nat.le_refl _) (Nat.zero_le _))))).mono (by omega) (Nat.le_refl _)
  clo n bn h k x hk := by
    obtain ⟨j, rfl⟩ : ∃ j, k = j + 1 := ⟨k - 1, by omega⟩
    rw [ice, allD, allD, allD, clo n bn h j x.a (by omega), clo n bn h j x.b (by omega)]; rfl
  eqv x y h := by
    rw [PyData.eqv, PyData.eqvAll, PyData.eqvAll, PyData.eqvAll, Bool.and_eq_true, Bool.and_eq_true] at h
    cases x; cases y
    cases eqv _ _ h.1; cases eqv _ _ h.2.1; rfl
  eqr x := by rw [PyData.eqv, PyData.eqvAll, PyData.eqvAll, PyData.eqvAll, eqr, eqr]; rfl
  lk h x := rfl
theorem sub_zero (hl : ns.length = c) : subL ns (List.replicate c 0) = ns := by
  unfold subL
  apply List.ext_getElem
  · simp [hl]
  · intro i h1 h2; simp
end
end Mi
-- Spd
set_option Elab.async false
set_option linter.all false
set_option maxRecDepth 100000
set_option maxHeartbeats 2000000
namespace Mi
open PySem L2 PyProof.Rows PySem.Spec
local macro_rules | `(tactic| fail) => `(tactic| first
  | with_reducible refine wp_op ?_
  | ((with_reducible refine wp_var ?_); refine gs_rfl ?_)
  | with_reducible refine wp_c ?_
  | with_reducible refine wp_cons ?_
  | with_reducible refine wp_nil ?_
  | with_reducible refine wp_cb ?_
  | with_reducible refine wp_cbn ?_
  | with_reducible refine wp_tst ?_
  | with_reducible refine wp_if ?_
  | with_reducible refine wp_un ?_
  | with_reducible refine wp_new ?_
  | with_reducible refine wp_box ?_
  | with_reducible refine wp_and ?_
  | with_reducible refine wp_or ?_
  | with_reducible refine wp_not ?_
  | with_reducible refine wp_sl ?_
  | with_reducible refine wp_call ?_
  | with_reducible refine wp_tup ?_
  | with_reducible refine wp_lst ?_
  | with_reducible refine wp_part ?_
  | with_reducible refine wp_mt ?_
  | with_reducible refine wp_iter ?_
  | with_reducible refine wp_range1 ?_
  | with_reducible refine wp_range2 ?_
  | with_reducible refine and_sz (by exact Nat.le_of_ble_eq_true rfl) ?_
  | with_reducible refine ws_seq ?_
  | with_reducible refine ws_set ?_
  | with_reducible refine ws_if ?_
  | with_reducible refine ws_ret ?_
  | with_reducible refine ws_brk ?_
  | with_reducible refine ws_cont ?_
  | with_reducible refine ws_drop ?_
  | with_reducible refine ws_nil ?_
  | with_reducible refine ws_par ?_
  | with_reducible refine ws_asg ?_
  | with_reducible refine tg_st ?_
  | with_reducible refine tg_n ?_
  | with_reducible refine g_add ?_
  | with_reducible refine g_sub ?_
  | with_reducible refine g_neg ?_
  | with_reducible refine g_lt ?_
  | with_reducible refine g_gt ?_
  | with_reducible refine g_le ?_
  | with_reducible refine g_ge ?_
  | with_reducible refine g_eq ?_
  | with_reducible refine g_ne ?_
  | with_reducible refine g_eqS ?_
  | with_reducible refine g_neS ?_
  | with_reducible refine g_tst ?_
  | with_reducible refine g_abs ?_
  | with_reducible refine g_int ?_
  | with_reducible refine g_intB ?_
  | with_reducible refine g_max2 ?_
  | with_reducible refine g_min2 ?_
  | with_reducible refine g_pow (by decide) ?_
  | with_reducible refine g_mod (by first | decide | omega) ?_
  | with_reducible refine g_mul (by first | decide | exact mulOk_of (k := 60) (m := 60) (by omega) (by omega) (by omega) (by omega)) ?_
  | with_reducible refine g_div (by first | decide | exact divOk_of (m := 60) (by omega) (by omega)) ?_
  | ((with_reducible apply g_ix); (first | assumption | exact rfl); (first | assumption | exact rfl))
  | with_reducible refine g_lenT ?_
  | with_reducible refine g_lenL ?_
  | ((with_reducible apply g_len); (first | assumption | exact rfl))
  | with_reducible refine g_tupL ?_
  | with_reducible refine g_tupT ?_
  | with_reducible refine g_sumT ?_
  | with_reducible refine g_sumL ?_
  | with_reducible refine g_append ?_ ?_
  | ((with_reducible apply g_addT); (first | assumption | exact rfl); (first | assumption | exact rfl); (simp <;> omega))
  | with_reducible refine g_slT_to ?_
  | with_reducible refine g_slT_from ?_
  | with_reducible refine g_slL_to ?_
  | with_reducible refine g_slL_from ?_
  | with_reducible refine wp_idx ?_
  | with_reducible refine g_isN' ?_
  | with_reducible refine g_notN' ?_
  | with_reducible refine ex_par ?_
  | with_reducible refine ex_par3 ?_
  | with_reducible refine wp_andV ?_
  | with_reducible refine wp_orV ?_
  | with_reducible refine wp_notV ?_
  | with_reducible refine ex_bl ?_
  | with_reducible refine ex_int ?_
  | with_reducible refine ex_int1 ?_
  | with_reducible refine g_mulT (by omega) ?_
  | with_reducible refine g_inT ?_
  | with_reducible refine g_inL ?_
  | with_reducible refine g_ninT ?_
  | with_reducible refine if_ntt ?_
  | with_reducible refine if_nff ?_
  | with_reducible refine if_ff ?_
  | with_reducible refine if_tt ?_
  | with_reducible refine g_listT ?_
  | with_reducible exact True.intro
  | with_reducible exact And.intro rfl rfl
  | dsimp only [List.set])
open Co Enc
section
variable {h hp hp' h1 h2 : Hs} {d x y : D} {xs ds : List D} {n k : Nat} {QL : List D → Hs → Prop} {g t m T T' b R c : Int} {env : Env} {ns ms : List Int} {bs : List (List D)} {w : M Src} {gg : MG} {me : M D} {vs : List Nat}
/-! ### demands -/
def stallI (ns ms : List Int) : List Int := (ns.zipIdx.filter fun a => decide (a.1 < at0 ms a.2)).map fun a => (a.2 : Int)
theorem stall_nil : stallI ns ms = [] ↔ ∀ i, i < ns.length → at0 ms i ≤ at0 ns i := by
  unfold stallI
  rw [List.map_eq_nil_iff, List.filter_eq_nil_iff]
  constructor
  · intro h i hi
    have := h (at0 ns i, i) (by rw [List.mem_zipIdx_iff_getElem?]; exact at0_get hi)
    simpa using this
  · rintro h ⟨z, i⟩ hz
    rw [List.mem_zipIdx_iff_getElem?] at hz
    have hi : i < ns.length := (List.getElem?_eq_some_iff.mp hz).1
    have hz : ns[i]? = some z := hz
    rw [at0_get hi] at hz
    cases hz
    have := h i hi
    simpa using this
theorem stalled_pu (hl : ns.length = ms.length) (hl2 : ns.length < 100000) : Pu f_stalled [.tup (ns.map .int), .tup (ms.map .int)] (.tup ((stallI ns ms).map .int)) := fun hp => by
  refine fs_cut (fs_run [some (.tup (ns.map .int)), some (.tup (ms.map .int)), none, none] rfl ?_)
  unfold m_stalled
  have sl : sizeLine = 2 ^ 24 := rfl
  repeat fail
  refine wp_compF ns.zipIdx (fun a => .itm [.int (a.2 : Int), .int a.1]) (fun a => decide (a.1 < at0 ms a.2)) (fun a => .int (a.2 : Int)) (wp_enum1 ?_)
  repeat fail
  refine ⟨_, _, rfl, rfl, enum0I, trivial, by simp; omega, fun a ha => ?_, ?_⟩
  · obtain ⟨z, i⟩ := a
    rw [List.mem_zipIdx_iff_getElem?] at ha
    have hi : i < ns.length := (List.getElem?_eq_some_iff.mp ha).1
    refine tg_tup2 (tg_n (tg_n ⟨rfl, ?_⟩))
    dsimp only [wipeE, List.set]
    repeat fail
    refine g_ix rfl (at_int (by omega)) ?_
    repeat fail
    refine ⟨rfl, rfl, fun _ => ?_⟩
    repeat fail
  rw [show List.map (fun a : Int × Nat => D.int (a.2 : Int)) (List.filter (fun a => decide (a.1 < at0 ms a.2)) ns.zipIdx) = (stallI ns ms).map .int by unfold stallI; rw [List.map_map]; rfl]
  repeat fail
  exact fin_eq clo_tup
theorem less_pu (hl : ns.length = ms.length) (hl2 : ns.length < 100000) (hs : stallI ns ms = []) : Pu f_less_demand [.tup (ns.map .int), .tup (ms.map .int)] (.tup ((subL ns ms).map .int)) := fun hp => by
  refine fs_cut (fs_run [some (.tup (ns.map .int)), some (.tup (ms.map .int)), none, none, none] rfl ?_)
  unfold m_less_demand
  have sl : sizeLine = 2 ^ 24 := rfl
  repeat fail
  refine ⟨rfl, (stalled_pu hl hl2).fs ?_⟩
  rw [hs]
  repeat fail
  refine g_neE ([] : List Int) [] rfl rfl (by decide) ?_
  rw [decide_eq_true rfl]
  repeat fail
  refine wp_compA (ns.zip ms) (fun a => .itm [.int a.1, .int a.2]) (fun a => .int (a.1 - a.2)) (wp_zip ?_)
  repeat fail
  refine ⟨_, _, _, _, rfl, rfl, rfl, zipE, ⟨trivial, trivial⟩, by simp; omega, fun a ha => ?_, ?_⟩
  · refine tg_tup2 (tg_n (tg_n ⟨rfl, ?_⟩))
    dsimp only [wipeE, List.set]
    repeat fail
  rw [show List.map (fun a : Int × Int => D.int (a.1 - a.2)) (ns.zip ms) = (subL ns ms).map .int by unfold subL; rw [List.map_map]; rfl]
  repeat fail
  exact fin_eq clo_tup
/-- ticks with the best grant -/
def tickB (b : Int) (ns ms : List Int) : List Int := chg (subL ns ms) (argm (subL ns ms)) b
def srv (b : Int) : List Int → List (List Int) → List Int → List Int × List Int
  | ns, [], g => (g, ns)
  | ns, ms :: ds, g => if stallI ns ms = [] then srv b (tickB b ns ms) ds (g ++ [(argm (subL ns ms) : Int)]) else (g, ns)
def dTs (ds : List (List Int)) : List D := ds.map fun d => D.tup (d.map .int)
theorem tickB_len (h : ns.length = ms.length) : (tickB b ns ms).length = ns.length := by unfold tickB; rw [chg_len, subL_len h]
theorem served_pu {ds : List (List Int)} (hne : ns ≠ []) (hd : ∀ d ∈ ds, d.length = ns.length) (hl : ns.length < 100000) (hl2 : ds.length < 100000) :
    Pu f_served [.tup (ns.map .int), .int b, .tup (dTs ds)] (.tup [.tup ((srv b ns ds []).1.map .int), .tup ((srv b ns ds []).2.map .int)]) := fun hp => by
  refine fs_cut (fs_run [some (.tup (ns.map .int)), some (.int b), some (.tup (dTs ds)), none, none, none, none] rfl ?_)
  unfold m_served
  have sl : sizeLine = 2 ^ 24 := rfl
  repeat fail
  refine ws_for ?_
  repeat fail
  refine ⟨_, rfl, ?_⟩
  refine ⟨fun i e h => ∃ (g here : List Int) (e5 e6 : Option D), e = [some (.tup (ns.map .int)), some (.int b), some (.tup (dTs ds)), some (.loc hp.length), some (.tup (here.map .int)), e5, e6] ∧ h = hp ++ [some (.lst (g.map .int))] ∧ srv b here (ds.drop i) g = srv b ns ds [] ∧ here.length = ns.length ∧ g.length ≤ i,
    ⟨[], ns, none, none, rfl, rfl, by rw [List.drop_zero], rfl, Nat.le_refl _⟩, fun _ _ _ _ _ => trivial, ?_, ?_⟩
  · rintro i x e h hx ⟨g, here, e5, e6, rfl, rfl, es, hh, hg⟩
    unfold dTs at hx
    rw [List.getElem?_map] at hx
    cases ed : ds[i]? with
    | none => rw [ed] at hx; cases hx
    | some d =>
      rw [ed] at hx; cases hx
      have hi : i < ds.length := (List.getElem?_eq_some_iff.mp ed).1
      have hdl := hd d (List.mem_of_getElem? ed)
      have hdrop : ds.drop i = d :: ds.drop (i + 1) := by rw [List.drop_eq_getElem_cons hi, (List.getElem?_eq_some_iff.mp ed).2]
      rw [hdrop, srv] at es
      have hne2 : subL here d ≠ [] := fun e => by
        have q := subL_len (ns := here) (ms := d) (by omega)
        rw [e] at q
        have z : ns.length ≠ 0 := fun e => hne (List.length_eq_zero_iff.mp e)
        have : ([] : List Int).length = 0 := rfl
        omega
      refine tg_n ?_
      repeat fail
      refine ⟨rfl, (stalled_pu (by omega) (by omega)).fs ?_⟩
      repeat fail
      refine g_neE (stallI here d) [] rfl rfl (by decide) ?_
      repeat fail
      refine ⟨fun c => ?_, fun c => ?_⟩
      · have c : stallI here d ≠ [] := by simpa using c
        rw [if_neg c] at es
        repeat fail
        refine g_tup box_seqv ?_
        repeat fail
        rw [← es]
        exact fin_eqA (clo_enc (g, here))
      · have c : stallI here d = [] := by simpa using c
        rw [if_pos c] at es
        repeat fail
        refine ⟨rfl, (less_pu (by omega) (by omega) c).fs ?_⟩
        repeat fail
        refine ⟨hp.length, _, rfl, List.getElem?_concat_length, ?_⟩
        repeat fail
        refine ⟨rfl, (best_pu hne2).fs ?_⟩
        repeat fail
        refine ⟨_, List.getElem?_concat_length, ?_⟩
        refine g_append (by simp; omega) ?_
        rw [box_set]
        repeat fail
        refine g_ix box_seqv atI_last ?_
        repeat fail
        refine ⟨rfl, (changed_pu (argm_ok hne2).2.1 (by rw [subL_len (by omega)]; omega)).fs ?_⟩
        repeat fail
        exact ⟨g ++ [(argm (subL here d) : Int)], tickB b here d, _, _, rfl, by rw [List.map_append]; rfl, es, by rw [tickB_len (by omega)]; exact hh, by simp; omega⟩
  · rintro e h ⟨g, here, e5, e6, rfl, rfl, es, hh, hg⟩
    unfold dTs at es
    rw [List.length_map, List.drop_length, srv] at es
    repeat fail
    refine g_tup box_seqv ?_
    repeat fail
    rw [← es]
    exact fin_eqA (clo_enc (g, here))
end
end Mi
-- Spe
set_option Elab.async false
set_option linter.all false
set_option maxRecDepth 100000
set_option maxHeartbeats 2000000
namespace Mi
open PySem L2 PyProof.Rows PySem.Spec
theorem g_eqSS {h : Hs} {Q : D → Prop} {s : Str} (q : Q (.bl true)) : Gt (gEq h (.str s) (.str s)) Q := g_eqS (by rw [decide_eq_true rfl]; exact q)
theorem g_neSS {h : Hs} {Q : D → Prop} {s : Str} (q : Q (.bl false)) : Gt (gNe h (.str s) (.str s)) Q := g_neS (by rw [decide_eq_true rfl]; exact q)
theorem tg_tt2 {env : Env} {hp : Hs} {g1 g2 : MG} {Q : Env → Hs → Prop} {x y : D} (q : Tg g1 x env hp fun e h => Tg g2 y e h Q) : Tg (gT 2 (gsCons g1 (gsCons g2 gsNil))) (.tup [x, y]) env hp Q :=
  tg_t rfl rfl (tgs_cons (by
    obtain ⟨e, h, z, q⟩ := q
    exact ⟨e, h, z, tgs_cons (by
      obtain ⟨e2, h2, z2, q⟩ := q
      exact ⟨e2, h2, z2, tgs_nil q⟩)⟩))
theorem or_ff {A B : Prop} (q : B) : (false = false → B) ∧ (false = true → A) := ⟨fun _ => q, fun c => (nomatch c)⟩
theorem or_tt {A B : Prop} (q : A) : (true = false → B) ∧ (true = true → A) := ⟨fun c => (nomatch c), fun _ => q⟩
theorem or_ntt {A B : Prop} (q : B) : ((!true) = false → B) ∧ ((!true) = true → A) := ⟨fun _ => q, fun c => (nomatch c)⟩
theorem or_nff {A B : Prop} (q : A) : ((!false) = false → B) ∧ ((!false) = true → A) := ⟨fun c => (nomatch c), fun _ => q⟩
local macro_rules | `(tactic| fail) => `(tactic| first
  | with_reducible refine wp_op ?_
  | ((with_reducible refine wp_var ?_); refine gs_rfl ?_)
  | with_reducible refine wp_c ?_
  | with_reducible refine wp_cons ?_
  | with_reducible refine wp_nil ?_
  | with_reducible refine wp_cb ?_
  | with_reducible refine wp_cbn ?_
  | with_reducible refine wp_tst ?_
  | with_reducible refine wp_if ?_
  | with_reducible refine wp_un ?_
  | with_reducible refine wp_new ?_
  | with_reducible refine wp_box ?_
  | with_reducible refine wp_and ?_
  | with_reducible refine wp_or ?_
  | with_reducible refine wp_not ?_
  | with_reducible refine wp_sl ?_
  | with_reducible refine wp_call ?_
  | with_reducible refine wp_tup ?_
  | with_reducible refine wp_lst ?_
  | with_reducible refine wp_part ?_
  | with_reducible refine wp_mt ?_
  | with_reducible refine wp_iter ?_
  | with_reducible refine wp_range1 ?_
  | with_reducible refine wp_range2 ?_
  | with_reducible refine and_sz (by exact Nat.le_of_ble_eq_true rfl) ?_
  | with_reducible refine ws_seq ?_
  | with_reducible refine ws_set ?_
  | with_reducible refine ws_if ?_
  | with_reducible refine ws_ret ?_
  | with_reducible refine ws_brk ?_
  | with_reducible refine ws_cont ?_
  | with_reducible refine ws_drop ?_
  | with_reducible refine ws_nil ?_
  | with_reducible refine ws_par ?_
  | with_reducible refine ws_asg ?_
  | with_reducible refine tg_tt2 ?_
  | with_reducible refine tg_tup2 ?_
  | with_reducible refine tg_st ?_
  | with_reducible refine tg_n ?_
  | with_reducible refine g_add ?_
  | with_reducible refine g_sub ?_
  | with_reducible refine g_neg ?_
  | with_reducible refine g_lt ?_
  | with_reducible refine g_gt ?_
  | with_reducible refine g_le ?_
  | with_reducible refine g_ge ?_
  | with_reducible refine g_eq ?_
  | with_reducible refine g_ne ?_
  | with_reducible refine g_eqSS ?_
  | with_reducible refine g_neSS ?_
  | with_reducible refine g_eqS ?_
  | with_reducible refine g_neS ?_
  | with_reducible refine g_tst ?_
  | with_reducible refine g_abs ?_
  | with_reducible refine g_int ?_
  | with_reducible refine g_intB ?_
  | with_reducible refine g_max2 ?_
  | with_reducible refine g_min2 ?_
  | with_reducible refine g_pow (by decide) ?_
  | with_reducible refine g_mod (by first | decide | omega) ?_
  | with_reducible refine g_mul (by first | decide | exact mulOk_of (k := 60) (m := 60) (by omega) (by omega) (by omega) (by omega)) ?_
  | with_reducible refine g_div (by first | decide | exact divOk_of (m := 60) (by omega) (by omega)) ?_
  | ((with_reducible apply g_ix); (first | assumption | exact rfl); (first | assumption | exact rfl))
  | with_reducible refine g_lenT ?_
  | with_reducible refine g_lenL ?_
  | ((with_reducible apply g_len); (first | assumption | exact rfl))
  | with_reducible refine g_tupL ?_
  | with_reducible refine g_tupT ?_
  | with_reducible refine g_sumT ?_
  | with_reducible refine g_sumL ?_
  | with_reducible refine g_append ?_ ?_
  | ((with_reducible apply g_addT); (first | assumption | exact rfl); (first | assumption | exact rfl); (simp <;> omega))
  | with_reducible refine g_slT_to ?_
  | with_reducible refine g_slT_from ?_
  | with_reducible refine g_slL_to ?_
  | with_reducible refine g_slL_from ?_
  | with_reducible refine wp_idx ?_
  | with_reducible refine g_isN' ?_
  | with_reducible refine g_notN' ?_
  | with_reducible refine ex_par ?_
  | with_reducible refine ex_par3 ?_
  | with_reducible refine wp_andV ?_
  | with_reducible refine wp_orV ?_
  | with_reducible refine wp_notV ?_
  | with_reducible refine ex_bl ?_
  | with_reducible refine ex_int ?_
  | with_reducible refine ex_int1 ?_
  | with_reducible refine g_mulT (by omega) ?_
  | with_reducible refine g_inT ?_
  | with_reducible refine g_inL ?_
  | with_reducible refine g_ninT ?_
  | with_reducible refine if_ntt ?_
  | with_reducible refine if_nff ?_
  | with_reducible refine if_ff ?_
  | with_reducible refine or_ff ?_
  | with_reducible refine or_tt ?_
  | with_reducible refine or_ntt ?_
  | with_reducible refine or_nff ?_
  | with_reducible refine if_tt ?_
  | with_reducible refine g_listT ?_
  | with_reducible exact True.intro
  | with_reducible exact And.intro rfl rfl
  | dsimp only [List.set])
open Co Enc
section
variable {h hp hp' h1 h2 hs : Hs} {d x y : D} {xs : List D} {n k : Nat} {T T' b R M : Int} {env : Env} {ns ms : List Int} {bs : List (List D)} {ds : List (List Int)}
theorem le_sum {f : List Int} {j : Nat} (h : ∀ i, i < f.length → 0 ≤ at0 f i) (hj : j < f.length) : at0 f j ≤ f.sum := by
  have := sm_one (j := j) (at0 f j) f.length hj
  rw [← this, ← sm_sum]
  exact sm_le _ fun i hi => by
    by_cases e : i = j
    · subst e; simp
    · rw [if_neg e]; exact h i hi
end
end Mi
-- Spf
set_option Elab.async false
set_option linter.all false
set_option maxRecDepth 100000
set_option maxHeartbeats 2000000
namespace Mi
open PySem L2 PyProof.Rows PySem.Spec
local macro_rules | `(tactic| fail) => `(tactic| first
  | with_reducible refine wp_op ?_
  | ((with_reducible refine wp_var ?_); refine gs_rfl ?_)
  | with_reducible refine wp_c ?_
  | with_reducible refine wp_cons ?_
  | with_reducible refine wp_nil ?_
  | with_reducible refine wp_cb ?_
  | with_reducible refine wp_cbn ?_
  | with_reducible refine wp_tst ?_
  | with_reducible refine wp_if ?_
  | with_reducible refine wp_un ?_
  | with_reducible refine wp_new ?_
  | with_reducible refine wp_box ?_
  | with_reducible refine wp_and ?_
  | with_reducible refine wp_or ?_
  | with_reducible refine wp_not ?_
  | with_reducible refine wp_sl ?_
  | with_reducible refine wp_call ?_
  | with_reducible refine wp_tup ?_
  | with_reducible refine wp_lst ?_
  | with_reducible refine wp_part ?_
  | with_reducible refine wp_mt ?_
  | with_reducible refine wp_iter ?_
  | with_reducible refine wp_range1 ?_
  | with_reducible refine wp_range2 ?_
  | with_reducible refine and_sz (by exact Nat.le_of_ble_eq_true rfl) ?_
  | with_reducible refine ws_seq ?_
  | with_reducible refine ws_set ?_
  | with_reducible refine ws_if ?_
  | with_reducible refine ws_ret ?_
  | with_reducible refine ws_brk ?_
  | with_reducible refine ws_cont ?_
  | with_reducible refine ws_drop ?_
  | with_reducible refine ws_nil ?_
  | with_reducible refine ws_par ?_
  | with_reducible refine ws_asg ?_
  | with_reducible refine tg_tt2 ?_
  | with_reducible refine tg_tup2 ?_
  | with_reducible refine tg_st ?_
  | with_reducible refine tg_n ?_
  | with_reducible refine g_add ?_
  | with_reducible refine g_sub ?_
  | with_reducible refine g_neg ?_
  | with_reducible refine g_lt ?_
  | with_reducible refine g_gt ?_
  | with_reducible refine g_le ?_
  | with_reducible refine g_ge ?_
  | with_reducible refine g_eq ?_
  | with_reducible refine g_ne ?_
  | with_reducible refine g_eqSS ?_
  | with_reducible refine g_neSS ?_
  | with_reducible refine g_eqS ?_
  | with_reducible refine g_neS ?_
  | with_reducible refine g_tst ?_
  | with_reducible refine g_abs ?_
  | with_reducible refine g_int ?_
  | with_reducible refine g_intB ?_
  | with_reducible refine g_max2 ?_
  | with_reducible refine g_min2 ?_
  | with_reducible refine g_pow (by decide) ?_
  | with_reducible refine g_mod (by first | decide | omega) ?_
  | with_reducible refine g_mul (by first | decide | exact mulOk_of (k := 60) (m := 60) (by omega) (by omega) (by omega) (by omega)) ?_
  | with_reducible refine g_div (by first | decide | exact divOk_of (m := 60) (by omega) (by omega)) ?_
  | ((with_reducible apply g_ix); (first | assumption | exact rfl); (first | assumption | exact rfl))
  | with_reducible refine g_lenT ?_
  | with_reducible refine g_lenL ?_
  | ((with_reducible apply g_len); (first | assumption | exact rfl))
  | with_reducible refine g_tupL ?_
  | with_reducible refine g_tupT ?_
  | with_reducible refine g_sumT ?_
  | with_reducible refine g_sumL ?_
  | with_reducible refine g_append ?_ ?_
  | ((with_reducible apply g_addT); (first | assumption | exact rfl); (first | assumption | exact rfl); (simp <;> omega))
  | with_reducible refine g_slT_to ?_
  | with_reducible refine g_slT_from ?_
  | with_reducible refine g_slL_to ?_
  | with_reducible refine g_slL_from ?_
  | with_reducible refine wp_idx ?_
  | with_reducible refine g_isN' ?_
  | with_reducible refine g_notN' ?_
  | with_reducible refine ex_par ?_
  | with_reducible refine ex_par3 ?_
  | with_reducible refine wp_andV ?_
  | with_reducible refine wp_orV ?_
  | with_reducible refine wp_notV ?_
  | with_reducible refine ex_bl ?_
  | with_reducible refine ex_int ?_
  | with_reducible refine ex_int1 ?_
  | with_reducible refine g_mulT (by omega) ?_
  | with_reducible refine g_inT ?_
  | with_reducible refine g_inL ?_
  | with_reducible refine g_ninT ?_
  | with_reducible refine if_ntt ?_
  | with_reducible refine if_nff ?_
  | with_reducible refine if_ff ?_
  | with_reducible refine or_ff ?_
  | with_reducible refine or_tt ?_
  | with_reducible refine or_ntt ?_
  | with_reducible refine or_nff ?_
  | with_reducible refine if_tt ?_
  | with_reducible refine g_listT ?_
  | with_reducible exact True.intro
  | with_reducible exact And.intro rfl rfl
  | dsimp only [List.set])
open Co Enc
end Mi
-- Spg
set_option Elab.async false
set_option linter.all false
set_option maxRecDepth 100000
set_option maxHeartbeats 2000000
namespace Mi
open PySem L2 PyProof.Rows PySem.Spec
local macro_rules | `(tactic| fail) => `(tactic| first
  | with_reducible refine wp_op ?_
  | ((with_reducible refine wp_var ?_); refine gs_rfl ?_)
  | with_reducible refine wp_c ?_
  | with_reducible refine wp_cons ?_
  | with_reducible refine wp_nil ?_
  | with_reducible refine wp_cb ?_
  | with_reducible refine wp_cbn ?_
  | with_reducible refine wp_tst ?_
  | with_reducible refine wp_if ?_
  | with_reducible refine wp_un ?_
  | with_reducible refine wp_new ?_
  | with_reducible refine wp_box ?_
  | with_reducible refine wp_and ?_
  | with_reducible refine wp_or ?_
  | with_reducible refine wp_not ?_
  | with_reducible refine wp_sl ?_
  | with_reducible refine wp_call ?_
  | with_reducible refine wp_tup ?_
  | with_reducible refine wp_lst ?_
  | with_reducible refine wp_part ?_
  | with_reducible refine wp_mt ?_
  | with_reducible refine wp_iter ?_
  | with_reducible refine wp_range1 ?_
  | with_reducible refine wp_range2 ?_
  | with_reducible refine and_sz (by exact Nat.le_of_ble_eq_true rfl) ?_
  | with_reducible refine ws_seq ?_
  | with_reducible refine ws_set ?_
  | with_reducible refine ws_if ?_
  | with_reducible refine ws_ret ?_
  | with_reducible refine ws_brk ?_
  | with_reducible refine ws_cont ?_
  | with_reducible refine ws_drop ?_
  | with_reducible refine ws_nil ?_
  | with_reducible refine ws_par ?_
  | with_reducible refine ws_asg ?_
  | with_reducible refine tg_tt2 ?_
  | with_reducible refine tg_tup2 ?_
  | with_reducible refine tg_st ?_
  | with_reducible refine tg_n ?_
  | with_reducible refine g_add ?_
  | with_reducible refine g_sub ?_
  | with_reducible refine g_neg ?_
  | with_reducible refine g_lt ?_
  | with_reducible refine g_gt ?_
  | with_reducible refine g_le ?_
  | with_reducible refine g_ge ?_
  | with_reducible refine g_eq ?_
  | with_reducible refine g_ne ?_
  | with_reducible refine g_eqSS ?_
  | with_reducible refine g_neSS ?_
  | with_reducible refine g_eqS ?_
  | with_reducible refine g_neS ?_
  | with_reducible refine g_tst ?_
  | with_reducible refine g_abs ?_
  | with_reducible refine g_int ?_
  | with_reducible refine g_intB ?_
  | with_reducible refine g_max2 ?_
  | with_reducible refine g_min2 ?_
  | with_reducible refine g_pow (by decide) ?_
  | with_reducible refine g_mod (by first | decide | omega) ?_
  | with_reducible refine g_mul (by first | decide | exact mulOk_of (k := 60) (m := 60) (by omega) (by omega) (by omega) (by omega)) ?_
  | with_reducible refine g_div (by first | decide | exact divOk_of (m := 60) (by omega) (by omega)) ?_
  | ((with_reducible apply g_ix); (first | assumption | exact rfl); (first | assumption | exact rfl))
  | with_reducible refine g_lenT ?_
  | with_reducible refine g_lenL ?_
  | ((with_reducible apply g_len); (first | assumption | exact rfl))
  | with_reducible refine g_tupL ?_
  | with_reducible refine g_tupT ?_
  | with_reducible refine g_sumT ?_
  | with_reducible refine g_sumL ?_
  | with_reducible refine g_append ?_ ?_
  | ((with_reducible apply g_addT); (first | assumption | exact rfl); (first | assumption | exact rfl); (simp <;> omega))
  | with_reducible refine g_slT_to ?_
  | with_reducible refine g_slT_from ?_
  | with_reducible refine g_slL_to ?_
  | with_reducible refine g_slL_from ?_
  | with_reducible refine wp_idx ?_
  | with_reducible refine g_isN' ?_
  | with_reducible refine g_notN' ?_
  | with_reducible refine ex_par ?_
  | with_reducible refine ex_par3 ?_
  | with_reducible refine wp_andV ?_
  | with_reducible refine wp_orV ?_
  | with_reducible refine wp_notV ?_
  | with_reducible refine ex_bl ?_
  | with_reducible refine ex_int ?_
  | with_reducible refine ex_int1 ?_
  | with_reducible refine g_mulT (by omega) ?_
  | with_reducible refine g_inT ?_
  | with_reducible refine g_inL ?_
  | with_reducible refine g_ninT ?_
  | with_reducible refine if_ntt ?_
  | with_reducible refine if_nff ?_
  | with_reducible refine if_ff ?_
  | with_reducible refine or_ff ?_
  | with_reducible refine or_tt ?_
  | with_reducible refine or_ntt ?_
  | with_reducible refine or_nff ?_
  | with_reducible refine if_tt ?_
  | with_reducible refine g_listT ?_
  | with_reducible exact True.intro
  | with_reducible exact And.intro rfl rfl
  | dsimp only [List.set])
open Co Enc
section
variable {h hp hp' h1 h2 hs : Hs} {d x y : D} {xs : List D} {n k c : Nat} {T T' b R M : Int} {env : Env} {ns ms : List Int} {bs : List (List D)} {ds : List (List Int)}
theorem safe_min (hs : gapI ns b = none) {i : Nat} (hi : i < ns.length) : b ≤ at0 ns i := by
  have := gap_iff.mp hs fun j => decide (j = i)
  have e1 : cn (fun j => decide (j = i)) ns.length = 1 := by
    have := cn_wi (p := fun _ => false) hi rfl
    rw [cn_none] at this
    refine Eq.trans ?_ this
    exact cn_congr fun j _ => by simp [wi]
  have e2 : sel (fun j => decide (j = i)) (at0 ns) ns.length = at0 ns i := by
    have := sel_wi (p := fun _ => false) (v := at0 ns) hi rfl
    have z : sel (fun _ => false) (at0 ns) ns.length = 0 := by unfold sel; exact sm_zero _
    rw [z, Int.zero_add] at this
    rw [← this]
    exact sel_congr (fun j _ => by simp [wi]) fun _ _ _ => rfl
  rw [e1, e2] at this
  exact this
theorem sub_sum (hl : ns.length = ms.length) : sm ns.length (at0 ns) - sm ns.length (at0 (subL ns ms)) = ms.sum := by
  rw [show sm ns.length (at0 (subL ns ms)) = sm ns.length fun i => at0 ns i - at0 ms i from sm_congr _ fun i _ => subL_at hl i, sm_sub, hl, sm_sum]; omega
/-- after each demand of safe balances: no stall, and the best grant leaves safe ones -/
theorem safe_tick (hb : 1 ≤ b) (hs : gapI ns b = none) (hl : ms.length = ns.length) (h0 : ∀ i, i < ns.length → 0 ≤ at0 ms i) (hm : ms.sum ≤ b) (hne : ns ≠ []) : stallI ns ms = [] ∧ gapI (tickB b ns ms) b = none := by
  have st : stallI ns ms = [] := stall_nil.mpr fun i hi => by
    have := safe_min hs hi
    have := le_sum (f := ms) (by rw [hl]; exact h0) (show i < ms.length by omega)
    omega
  refine ⟨st, ?_⟩
  have sl := subL_len (ns := ns) (ms := ms) hl.symm
  have hne2 : subL ns ms ≠ [] := fun e => by
    rw [e] at sl
    exact hne (List.length_eq_zero_iff.mp sl.symm)
  obtain ⟨_, a2, _, _, a5⟩ := argm_ok hne2
  rw [sl] at a2 a5
  rw [gap_iff, tickB_len hl.symm]
  refine (gap_iff.mp hs).grant (c := at0 (subL ns ms)) (j := argm (subL ns ms)) hb (fun i hi => ?_) (by rw [sub_sum hl.symm]; exact hm) a2 a5 fun i hi => ?_
  · rw [subL_at hl.symm]; have := h0 i hi; omega
  · unfold tickB; exact chg_at (by rw [sl]; exact a2)
end
end Mi
-- Th2
set_option Elab.async false
set_option linter.all false
set_option maxRecDepth 100000
set_option maxHeartbeats 2000000
namespace Mi
/-! ### one more sender, one balance changed -/
end Mi
-- Sph
set_option Elab.async false
set_option linter.all false
set_option maxRecDepth 100000
set_option maxHeartbeats 2000000
namespace Mi
open PySem L2 PyProof.Rows PySem.Spec
theorem wp_chain {g g' : Hs → D → D → Option D} {a b c : M D} {env : Env} {hp : Hs} {Q : D → Hs → Prop} (q : Wp a env hp fun x h1 => Wp b env h1 fun y h2 => Gt (g h2 x y) fun z => ∃ k, z = .bl k ∧ (k = true → Wp c env h2 fun w h3 => Gt (g' h3 y w) fun d => Q d h3) ∧ (k = false → Q (.bl false) h2)) : Wp (mChain g g' a b c) env hp Q :=
  Wp.bnd (q.mono fun _ _ q => Wp.bnd (q.mono fun _ _ q => Wp.bnd (Wp.lft (by
    obtain ⟨z, e, k, rfl, q1, q2⟩ := q
    refine ⟨_, e, ?_⟩
    cases k with
    | true => exact Wp.bnd ((q1 rfl).mono fun _ _ q => Wp.lft q)
    | false => exact wp_c (q2 rfl)))))
local macro_rules | `(tactic| fail) => `(tactic| first
  | with_reducible refine wp_op ?_
  | ((with_reducible refine wp_var ?_); refine gs_rfl ?_)
  | with_reducible refine wp_c ?_
  | with_reducible refine wp_cons ?_
  | with_reducible refine wp_nil ?_
  | with_reducible refine wp_cb ?_
  | with_reducible refine wp_cbn ?_
  | with_reducible refine wp_tst ?_
  | with_reducible refine wp_if ?_
  | with_reducible refine wp_un ?_
  | with_reducible refine wp_new ?_
  | with_reducible refine wp_box ?_
  | with_reducible refine wp_and ?_
  | with_reducible refine wp_or ?_
  | with_reducible refine wp_not ?_
  | with_reducible refine wp_sl ?_
  | with_reducible refine wp_call ?_
  | with_reducible refine wp_tup ?_
  | with_reducible refine wp_lst ?_
  | with_reducible refine wp_part ?_
  | with_reducible refine wp_mt ?_
  | with_reducible refine wp_iter ?_
  | with_reducible refine wp_range1 ?_
  | with_reducible refine wp_range2 ?_
  | with_reducible refine and_sz (by exact Nat.le_of_ble_eq_true rfl) ?_
  | with_reducible refine ws_seq ?_
  | with_reducible refine ws_set ?_
  | with_reducible refine ws_if ?_
  | with_reducible refine ws_ret ?_
  | with_reducible refine ws_brk ?_
  | with_reducible refine ws_cont ?_
  | with_reducible refine ws_drop ?_
  | with_reducible refine ws_nil ?_
  | with_reducible refine ws_par ?_
  | with_reducible refine ws_asg ?_
  | with_reducible refine tg_tt2 ?_
  | with_reducible refine tg_tup2 ?_
  | with_reducible refine tg_st ?_
  | with_reducible refine tg_n ?_
  | with_reducible refine g_add ?_
  | with_reducible refine g_sub ?_
  | with_reducible refine g_neg ?_
  | with_reducible refine g_lt ?_
  | with_reducible refine g_gt ?_
  | with_reducible refine g_le ?_
  | with_reducible refine g_ge ?_
  | with_reducible refine g_eq ?_
  | with_reducible refine g_ne ?_
  | with_reducible refine g_eqSS ?_
  | with_reducible refine g_neSS ?_
  | with_reducible refine g_eqS ?_
  | with_reducible refine g_neS ?_
  | with_reducible refine g_tst ?_
  | with_reducible refine g_abs ?_
  | with_reducible refine g_int ?_
  | with_reducible refine g_intB ?_
  | with_reducible refine g_max2 ?_
  | with_reducible refine g_min2 ?_
  | with_reducible refine g_pow (by decide) ?_
  | with_reducible refine g_mod (by first | decide | omega) ?_
  | with_reducible refine g_mul (by first | decide | exact mulOk_of (k := 60) (m := 60) (by omega) (by omega) (by omega) (by omega)) ?_
  | with_reducible refine g_div (by first | decide | exact divOk_of (m := 60) (by omega) (by omega)) ?_
  | ((with_reducible apply g_ix); (first | assumption | exact rfl); (first | assumption | exact rfl))
  | with_reducible refine g_lenT ?_
  | with_reducible refine g_lenL ?_
  | ((with_reducible apply g_len); (first | assumption | exact rfl))
  | with_reducible refine g_tupL ?_
  | with_reducible refine g_tupT ?_
  | with_reducible refine g_sumT ?_
  | with_reducible refine g_sumL ?_
  | with_reducible refine g_append ?_ ?_
  | ((with_reducible apply g_addT); (first | assumption | exact rfl); (first | assumption | exact rfl); (simp <;> omega))
  | with_reducible refine g_slT_to ?_
  | with_reducible refine g_slT_from ?_
  | with_reducible refine g_slL_to ?_
  | with_reducible refine g_slL_from ?_
  | with_reducible refine wp_idx ?_
  | with_reducible refine g_isN' ?_
  | with_reducible refine g_notN' ?_
  | with_reducible refine ex_par ?_
  | with_reducible refine ex_par3 ?_
  | with_reducible refine wp_andV ?_
  | with_reducible refine wp_chain ?_
  | with_reducible refine wp_orV ?_
  | with_reducible refine wp_notV ?_
  | with_reducible refine ex_bl ?_
  | with_reducible refine ex_int ?_
  | with_reducible refine ex_int1 ?_
  | with_reducible refine g_mulT (by omega) ?_
  | with_reducible refine g_inT ?_
  | with_reducible refine g_inL ?_
  | with_reducible refine g_ninT ?_
  | with_reducible refine if_ntt ?_
  | with_reducible refine if_nff ?_
  | with_reducible refine if_ff ?_
  | with_reducible refine or_ff ?_
  | with_reducible refine or_tt ?_
  | with_reducible refine or_ntt ?_
  | with_reducible refine or_nff ?_
  | with_reducible refine if_tt ?_
  | with_reducible refine g_listT ?_
  | with_reducible exact True.intro
  | with_reducible exact And.intro rfl rfl
  | dsimp only [List.set])
open Co Enc
end Mi
-- Spi
set_option Elab.async false
set_option linter.all false
set_option maxRecDepth 100000
set_option maxHeartbeats 2000000
namespace Mi
open PySem L2 PyProof.Rows PySem.Spec
local macro_rules | `(tactic| fail) => `(tactic| first
  | with_reducible refine wp_op ?_
  | ((with_reducible refine wp_var ?_); refine gs_rfl ?_)
  | with_reducible refine wp_c ?_
  | with_reducible refine wp_cons ?_
  | with_reducible refine wp_nil ?_
  | with_reducible refine wp_cb ?_
  | with_reducible refine wp_cbn ?_
  | with_reducible refine wp_tst ?_
  | with_reducible refine wp_if ?_
  | with_reducible refine wp_un ?_
  | with_reducible refine wp_new ?_
  | with_reducible refine wp_box ?_
  | with_reducible refine wp_and ?_
  | with_reducible refine wp_or ?_
  | with_reducible refine wp_not ?_
  | with_reducible refine wp_sl ?_
  | with_reducible refine wp_call ?_
  | with_reducible refine wp_tup ?_
  | with_reducible refine wp_lst ?_
  | with_reducible refine wp_part ?_
  | with_reducible refine wp_mt ?_
  | with_reducible refine wp_iter ?_
  | with_reducible refine wp_range1 ?_
  | with_reducible refine wp_range2 ?_
  | with_reducible refine and_sz (by exact Nat.le_of_ble_eq_true rfl) ?_
  | with_reducible refine ws_seq ?_
  | with_reducible refine ws_set ?_
  | with_reducible refine ws_if ?_
  | with_reducible refine ws_ret ?_
  | with_reducible refine ws_brk ?_
  | with_reducible refine ws_cont ?_
  | with_reducible refine ws_drop ?_
  | with_reducible refine ws_nil ?_
  | with_reducible refine ws_par ?_
  | with_reducible refine ws_asg ?_
  | with_reducible refine tg_tt2 ?_
  | with_reducible refine tg_tup2 ?_
  | with_reducible refine tg_st ?_
  | with_reducible refine tg_n ?_
  | with_reducible refine g_add ?_
  | with_reducible refine g_sub ?_
  | with_reducible refine g_neg ?_
  | with_reducible refine g_lt ?_
  | with_reducible refine g_gt ?_
  | with_reducible refine g_le ?_
  | with_reducible refine g_ge ?_
  | with_reducible refine g_eq ?_
  | with_reducible refine g_ne ?_
  | with_reducible refine g_eqSS ?_
  | with_reducible refine g_neSS ?_
  | with_reducible refine g_eqS ?_
  | with_reducible refine g_neS ?_
  | with_reducible refine g_tst ?_
  | with_reducible refine g_abs ?_
  | with_reducible refine g_int ?_
  | with_reducible refine g_intB ?_
  | with_reducible refine g_max2 ?_
  | with_reducible refine g_min2 ?_
  | with_reducible refine g_pow (by decide) ?_
  | with_reducible refine g_mod (by first | decide | omega) ?_
  | with_reducible refine g_mul (by first | decide | exact mulOk_of (k := 60) (m := 60) (by omega) (by omega) (by omega) (by omega)) ?_
  | with_reducible refine g_div (by first | decide | exact divOk_of (m := 60) (by omega) (by omega)) ?_
  | ((with_reducible apply g_ix); (first | assumption | exact rfl); (first | assumption | exact rfl))
  | with_reducible refine g_lenT ?_
  | with_reducible refine g_lenL ?_
  | ((with_reducible apply g_len); (first | assumption | exact rfl))
  | with_reducible refine g_tupL ?_
  | with_reducible refine g_tupT ?_
  | with_reducible refine g_sumT ?_
  | with_reducible refine g_sumL ?_
  | with_reducible refine g_append ?_ ?_
  | ((with_reducible apply g_addT); (first | assumption | exact rfl); (first | assumption | exact rfl); (simp <;> omega))
  | with_reducible refine g_slT_to ?_
  | with_reducible refine g_slT_from ?_
  | with_reducible refine g_slL_to ?_
  | with_reducible refine g_slL_from ?_
  | with_reducible refine wp_idx ?_
  | with_reducible refine g_isN' ?_
  | with_reducible refine g_notN' ?_
  | with_reducible refine ex_par ?_
  | with_reducible refine ex_par3 ?_
  | with_reducible refine wp_andV ?_
  | with_reducible refine wp_chain ?_
  | with_reducible refine wp_orV ?_
  | with_reducible refine wp_notV ?_
  | with_reducible refine ex_bl ?_
  | with_reducible refine ex_int ?_
  | with_reducible refine ex_int1 ?_
  | with_reducible refine g_mulT (by omega) ?_
  | with_reducible refine g_inT ?_
  | with_reducible refine g_inL ?_
  | with_reducible refine g_ninT ?_
  | with_reducible refine if_ntt ?_
  | with_reducible refine if_nff ?_
  | with_reducible refine if_ff ?_
  | with_reducible refine or_ff ?_
  | with_reducible refine or_tt ?_
  | with_reducible refine or_ntt ?_
  | with_reducible refine or_nff ?_
  | with_reducible refine if_tt ?_
  | with_reducible refine g_listT ?_
  | with_reducible exact True.intro
  | with_reducible exact And.intro rfl rfl
  | dsimp only [List.set])
open Co Enc
end Mi
-- Spj
set_option Elab.async false
set_option linter.all false
set_option maxRecDepth 100000
set_option maxHeartbeats 2000000
namespace Mi
open PySem L2 PyProof.Rows PySem.Spec
theorem g_isi {h : Hs} {x : D} {s : String} {r : D} {Q : D → Prop} (e : gIsi h [x, .ty s] = some r) (q : Q r) : Gt (gIsi h [x, .ty s]) Q := ⟨r, e, q⟩
theorem g_neB {h : Hs} {a b : Bool} {Q : D → Prop} (q : Q (.bl (!decide (a = b)))) : Gt (gNe h (.bl a) (.bl b)) Q := ⟨_, rfl, q⟩
theorem g_eqB {h : Hs} {a b : Bool} {Q : D → Prop} (q : Q (.bl (decide (a = b)))) : Gt (gEq h (.bl a) (.bl b)) Q := ⟨_, rfl, q⟩
local macro_rules | `(tactic| fail) => `(tactic| first
  | with_reducible refine wp_op ?_
  | ((with_reducible refine wp_var ?_); refine gs_rfl ?_)
  | with_reducible refine wp_c ?_
  | with_reducible refine wp_cons ?_
  | with_reducible refine wp_nil ?_
  | with_reducible refine wp_cb ?_
  | with_reducible refine wp_cbn ?_
  | with_reducible refine wp_tst ?_
  | with_reducible refine wp_if ?_
  | with_reducible refine wp_un ?_
  | with_reducible refine wp_new ?_
  | with_reducible refine wp_box ?_
  | with_reducible refine wp_and ?_
  | with_reducible refine wp_or ?_
  | with_reducible refine wp_not ?_
  | with_reducible refine wp_sl ?_
  | with_reducible refine wp_call ?_
  | with_reducible refine wp_tup ?_
  | with_reducible refine wp_lst ?_
  | with_reducible refine wp_part ?_
  | with_reducible refine wp_mt ?_
  | with_reducible refine wp_iter ?_
  | with_reducible refine wp_range1 ?_
  | with_reducible refine wp_range2 ?_
  | with_reducible refine and_sz (by exact Nat.le_of_ble_eq_true rfl) ?_
  | with_reducible refine ws_seq ?_
  | with_reducible refine ws_set ?_
  | with_reducible refine ws_if ?_
  | with_reducible refine ws_ret ?_
  | with_reducible refine ws_brk ?_
  | with_reducible refine ws_cont ?_
  | with_reducible refine ws_drop ?_
  | with_reducible refine ws_nil ?_
  | with_reducible refine ws_par ?_
  | with_reducible refine ws_asg ?_
  | with_reducible refine tg_tt2 ?_
  | with_reducible refine tg_tup2 ?_
  | with_reducible refine tg_st ?_
  | with_reducible refine tg_n ?_
  | with_reducible refine g_add ?_
  | with_reducible refine g_sub ?_
  | with_reducible refine g_neg ?_
  | with_reducible refine g_lt ?_
  | with_reducible refine g_gt ?_
  | with_reducible refine g_le ?_
  | with_reducible refine g_ge ?_
  | with_reducible refine g_eq ?_
  | with_reducible refine g_ne ?_
  | with_reducible refine g_eqSS ?_
  | with_reducible refine g_neSS ?_
  | with_reducible refine g_eqS ?_
  | with_reducible refine g_neS ?_
  | with_reducible refine g_tst ?_
  | with_reducible refine g_abs ?_
  | with_reducible refine g_int ?_
  | with_reducible refine g_intB ?_
  | with_reducible refine g_max2 ?_
  | with_reducible refine g_min2 ?_
  | with_reducible refine g_pow (by decide) ?_
  | with_reducible refine g_mod (by first | decide | omega) ?_
  | with_reducible refine g_mul (by first | decide | exact mulOk_of (k := 60) (m := 60) (by omega) (by omega) (by omega) (by omega)) ?_
  | with_reducible refine g_div (by first | decide | exact divOk_of (m := 60) (by omega) (by omega)) ?_
  | ((with_reducible apply g_ix); (first | assumption | exact rfl); (first | assumption | exact rfl))
  | with_reducible refine g_lenT ?_
  | with_reducible refine g_lenL ?_
  | ((with_reducible apply g_len); (first | assumption | exact rfl))
  | with_reducible refine g_tupL ?_
  | with_reducible refine g_tupT ?_
  | with_reducible refine g_sumT ?_
  | with_reducible refine g_sumL ?_
  | with_reducible refine g_append ?_ ?_
  | ((with_reducible apply g_addT); (first | assumption | exact rfl); (first | assumption | exact rfl); (simp <;> omega))
  | with_reducible refine g_slT_to ?_
  | with_reducible refine g_slT_from ?_
  | with_reducible refine g_slL_to ?_
  | with_reducible refine g_slL_from ?_
  | with_reducible refine wp_idx ?_
  | with_reducible refine g_isN' ?_
  | with_reducible refine g_notN' ?_
  | with_reducible refine ex_par ?_
  | with_reducible refine ex_par3 ?_
  | with_reducible refine wp_andV ?_
  | with_reducible refine wp_chain ?_
  | ((with_reducible apply g_isi); (exact rfl))
  | with_reducible refine g_neB ?_
  | with_reducible refine g_eqB ?_
  | with_reducible refine wp_orV ?_
  | with_reducible refine wp_notV ?_
  | with_reducible refine ex_bl ?_
  | with_reducible refine ex_int ?_
  | with_reducible refine ex_int1 ?_
  | with_reducible refine g_mulT (by omega) ?_
  | with_reducible refine g_inT ?_
  | with_reducible refine g_inL ?_
  | with_reducible refine g_ninT ?_
  | with_reducible refine if_ntt ?_
  | with_reducible refine if_nff ?_
  | with_reducible refine if_ff ?_
  | with_reducible refine or_ff ?_
  | with_reducible refine or_tt ?_
  | with_reducible refine or_ntt ?_
  | with_reducible refine or_nff ?_
  | with_reducible refine if_tt ?_
  | with_reducible refine g_listT ?_
  | with_reducible exact True.intro
  | with_reducible exact And.intro rfl rfl
  | dsimp only [List.set])
open Co Enc
end Mi
-- Th3
set_option Elab.async false
set_option linter.all false
set_option maxRecDepth 100000
set_option maxHeartbeats 2000000
namespace Mi
/-! ### raising and lowering one after the other -/
section
variable {ns ms t c cs x y : List Int} {b z : Int} {n k j m : Nat}
/-- what stands when some were raised -/
structure Rsd (b : Int) (t c : List Int) : Prop where
  len : t.length = c.length
  safe : gapI t b = none
  ge : ∀ i, i < c.length → at0 c i ≤ at0 t i
  tight : ∃ p : Nat → Bool, sel p (at0 t) c.length = Rr b (cn p c.length) ∧ ∀ i, i < c.length → p i = false → at0 t i = at0 c i
theorem Rsd.nil : Rsd b [] [] := ⟨rfl, rfl, fun i h => by simp at h, fun _ => false, rfl, fun i h => by simp at h⟩
end
end Mi
-- Spk
set_option Elab.async false
set_option linter.all false
set_option maxRecDepth 100000
set_option maxHeartbeats 2000000
namespace Mi
open PySem L2 PyProof.Rows PySem.Spec
local macro_rules | `(tactic| fail) => `(tactic| first
  | with_reducible refine wp_op ?_
  | ((with_reducible refine wp_var ?_); refine gs_rfl ?_)
  | with_reducible refine wp_c ?_
  | with_reducible refine wp_cons ?_
  | with_reducible refine wp_nil ?_
  | with_reducible refine wp_cb ?_
  | with_reducible refine wp_cbn ?_
  | with_reducible refine wp_tst ?_
  | with_reducible refine wp_if ?_
  | with_reducible refine wp_un ?_
  | with_reducible refine wp_new ?_
  | with_reducible refine wp_box ?_
  | with_reducible refine wp_and ?_
  | with_reducible refine wp_or ?_
  | with_reducible refine wp_not ?_
  | with_reducible refine wp_sl ?_
  | with_reducible refine wp_call ?_
  | with_reducible refine wp_tup ?_
  | with_reducible refine wp_lst ?_
  | with_reducible refine wp_part ?_
  | with_reducible refine wp_mt ?_
  | with_reducible refine wp_iter ?_
  | with_reducible refine wp_range1 ?_
  | with_reducible refine wp_range2 ?_
  | with_reducible refine and_sz (by exact Nat.le_of_ble_eq_true rfl) ?_
  | with_reducible refine ws_seq ?_
  | with_reducible refine ws_set ?_
  | with_reducible refine ws_if ?_
  | with_reducible refine ws_ret ?_
  | with_reducible refine ws_brk ?_
  | with_reducible refine ws_cont ?_
  | with_reducible refine ws_drop ?_
  | with_reducible refine ws_nil ?_
  | with_reducible refine ws_par ?_
  | with_reducible refine ws_asg ?_
  | with_reducible refine tg_tt2 ?_
  | with_reducible refine tg_tup2 ?_
  | with_reducible refine tg_st ?_
  | with_reducible refine tg_n ?_
  | with_reducible refine g_add ?_
  | with_reducible refine g_sub ?_
  | with_reducible refine g_neg ?_
  | with_reducible refine g_lt ?_
  | with_reducible refine g_gt ?_
  | with_reducible refine g_le ?_
  | with_reducible refine g_ge ?_
  | with_reducible refine g_eq ?_
  | with_reducible refine g_ne ?_
  | with_reducible refine g_eqSS ?_
  | with_reducible refine g_neSS ?_
  | with_reducible refine g_eqS ?_
  | with_reducible refine g_neS ?_
  | with_reducible refine g_tst ?_
  | with_reducible refine g_abs ?_
  | with_reducible refine g_int ?_
  | with_reducible refine g_intB ?_
  | with_reducible refine g_max2 ?_
  | with_reducible refine g_min2 ?_
  | with_reducible refine g_pow (by decide) ?_
  | with_reducible refine g_mod (by first | decide | omega) ?_
  | with_reducible refine g_mul (by first | decide | exact mulOk_of (k := 60) (m := 60) (by omega) (by omega) (by omega) (by omega)) ?_
  | with_reducible refine g_div (by first | decide | exact divOk_of (m := 60) (by omega) (by omega)) ?_
  | ((with_reducible apply g_ix); (first | assumption | exact rfl); (first | assumption | exact rfl))
  | with_reducible refine g_lenT ?_
  | with_reducible refine g_lenL ?_
  | ((with_reducible apply g_len); (first | assumption | exact rfl))
  | with_reducible refine g_tupL ?_
  | with_reducible refine g_tupT ?_
  | with_reducible refine g_sumT ?_
  | with_reducible refine g_sumL ?_
  | with_reducible refine g_append ?_ ?_
  | ((with_reducible apply g_addT); (first | assumption | exact rfl); (first | assumption | exact rfl); (simp <;> omega))
  | with_reducible refine g_slT_to ?_
  | with_reducible refine g_slT_from ?_
  | with_reducible refine g_slL_to ?_
  | with_reducible refine g_slL_from ?_
  | with_reducible refine wp_idx ?_
  | with_reducible refine g_isN' ?_
  | with_reducible refine g_notN' ?_
  | with_reducible refine ex_par ?_
  | with_reducible refine ex_par3 ?_
  | with_reducible refine wp_andV ?_
  | with_reducible refine wp_chain ?_
  | ((with_reducible apply g_isi); (exact rfl))
  | with_reducible refine g_neB ?_
  | with_reducible refine g_eqB ?_
  | with_reducible refine wp_orV ?_
  | with_reducible refine wp_notV ?_
  | with_reducible refine ex_bl ?_
  | with_reducible refine ex_int ?_
  | with_reducible refine ex_int1 ?_
  | with_reducible refine g_mulT (by omega) ?_
  | with_reducible refine g_inT ?_
  | with_reducible refine g_inL ?_
  | with_reducible refine g_ninT ?_
  | with_reducible refine if_ntt ?_
  | with_reducible refine if_nff ?_
  | with_reducible refine if_ff ?_
  | with_reducible refine or_ff ?_
  | with_reducible refine or_tt ?_
  | with_reducible refine or_ntt ?_
  | with_reducible refine or_nff ?_
  | with_reducible refine if_tt ?_
  | with_reducible refine g_listT ?_
  | with_reducible exact True.intro
  | with_reducible exact And.intro rfl rfl
  | dsimp only [List.set])
open Co Enc
section
variable {h hp hp' h1 h2 hs : Hs} {d x y : D} {xs : List D} {n k c j : Nat} {T T' b R M m : Int} {env : Env} {ns ms ps : List Int} {bs : List (List D)} {ds : List (List Int)} {body : MS}
/-! ### the falling order -/
/-! ### raised -/
/-! ### what raised is -/
theorem zipIdx_range : ns.zipIdx = (List.range ns.length).map fun i => (at0 ns i, i) := by
  apply List.ext_getElem?
  intro i
  rw [List.getElem?_map, List.getElem?_zipIdx]
  by_cases h : i < ns.length
  · rw [List.getElem?_range h, at0_get h]; simp
  · rw [List.getElem?_eq_none (by omega), List.getElem?_eq_none (by simpa using h)]; rfl
end
end Mi
-- Spl
set_option Elab.async false
set_option linter.all false
set_option maxRecDepth 100000
set_option maxHeartbeats 2000000
namespace Mi
open PySem L2 PyProof.Rows PySem.Spec
local macro_rules | `(tactic| fail) => `(tactic| first
  | with_reducible refine wp_op ?_
  | ((with_reducible refine wp_var ?_); refine gs_rfl ?_)
  | with_reducible refine wp_c ?_
  | with_reducible refine wp_cons ?_
  | with_reducible refine wp_nil ?_
  | with_reducible refine wp_cb ?_
  | with_reducible refine wp_cbn ?_
  | with_reducible refine wp_tst ?_
  | with_reducible refine wp_if ?_
  | with_reducible refine wp_un ?_
  | with_reducible refine wp_new ?_
  | with_reducible refine wp_box ?_
  | with_reducible refine wp_and ?_
  | with_reducible refine wp_or ?_
  | with_reducible refine wp_not ?_
  | with_reducible refine wp_sl ?_
  | with_reducible refine wp_call ?_
  | with_reducible refine wp_tup ?_
  | with_reducible refine wp_lst ?_
  | with_reducible refine wp_part ?_
  | with_reducible refine wp_mt ?_
  | with_reducible refine wp_iter ?_
  | with_reducible refine wp_range1 ?_
  | with_reducible refine wp_range2 ?_
  | with_reducible refine and_sz (by exact Nat.le_of_ble_eq_true rfl) ?_
  | with_reducible refine ws_seq ?_
  | with_reducible refine ws_set ?_
  | with_reducible refine ws_if ?_
  | with_reducible refine ws_ret ?_
  | with_reducible refine ws_brk ?_
  | with_reducible refine ws_cont ?_
  | with_reducible refine ws_drop ?_
  | with_reducible refine ws_nil ?_
  | with_reducible refine ws_par ?_
  | with_reducible refine ws_asg ?_
  | with_reducible refine tg_tt2 ?_
  | with_reducible refine tg_tup2 ?_
  | with_reducible refine tg_st ?_
  | with_reducible refine tg_n ?_
  | with_reducible refine g_add ?_
  | with_reducible refine g_sub ?_
  | with_reducible refine g_neg ?_
  | with_reducible refine g_lt ?_
  | with_reducible refine g_gt ?_
  | with_reducible refine g_le ?_
  | with_reducible refine g_ge ?_
  | with_reducible refine g_eq ?_
  | with_reducible refine g_ne ?_
  | with_reducible refine g_eqSS ?_
  | with_reducible refine g_neSS ?_
  | with_reducible refine g_eqS ?_
  | with_reducible refine g_neS ?_
  | with_reducible refine g_tst ?_
  | with_reducible refine g_abs ?_
  | with_reducible refine g_int ?_
  | with_reducible refine g_intB ?_
  | with_reducible refine g_max2 ?_
  | with_reducible refine g_min2 ?_
  | with_reducible refine g_pow (by decide) ?_
  | with_reducible refine g_mod (by first | decide | omega) ?_
  | with_reducible refine g_mul (by first | decide | exact mulOk_of (k := 60) (m := 60) (by omega) (by omega) (by omega) (by omega)) ?_
  | with_reducible refine g_div (by first | decide | exact divOk_of (m := 60) (by omega) (by omega)) ?_
  | ((with_reducible apply g_ix); (first | assumption | exact rfl); (first | assumption | exact rfl))
  | with_reducible refine g_lenT ?_
  | with_reducible refine g_lenL ?_
  | ((with_reducible apply g_len); (first | assumption | exact rfl))
  | with_reducible refine g_tupL ?_
  | with_reducible refine g_tupT ?_
  | with_reducible refine g_sumT ?_
  | with_reducible refine g_sumL ?_
  | with_reducible refine g_append ?_ ?_
  | ((with_reducible apply g_addT); (first | assumption | exact rfl); (first | assumption | exact rfl); (simp <;> omega))
  | with_reducible refine g_slT_to ?_
  | with_reducible refine g_slT_from ?_
  | with_reducible refine g_slL_to ?_
  | with_reducible refine g_slL_from ?_
  | with_reducible refine wp_idx ?_
  | with_reducible refine g_isN' ?_
  | with_reducible refine g_notN' ?_
  | with_reducible refine ex_par ?_
  | with_reducible refine ex_par3 ?_
  | with_reducible refine wp_andV ?_
  | with_reducible refine wp_chain ?_
  | ((with_reducible apply g_isi); (exact rfl))
  | with_reducible refine g_neB ?_
  | with_reducible refine g_eqB ?_
  | with_reducible refine wp_orV ?_
  | with_reducible refine wp_notV ?_
  | with_reducible refine ex_bl ?_
  | with_reducible refine ex_int ?_
  | with_reducible refine ex_int1 ?_
  | with_reducible refine g_mulT (by omega) ?_
  | with_reducible refine g_inT ?_
  | with_reducible refine g_inL ?_
  | with_reducible refine g_ninT ?_
  | with_reducible refine if_ntt ?_
  | with_reducible refine if_nff ?_
  | with_reducible refine if_ff ?_
  | with_reducible refine or_ff ?_
  | with_reducible refine or_tt ?_
  | with_reducible refine or_ntt ?_
  | with_reducible refine or_nff ?_
  | with_reducible refine if_tt ?_
  | with_reducible refine g_listT ?_
  | with_reducible exact True.intro
  | with_reducible exact And.intro rfl rfl
  | dsimp only [List.set])
open Co Enc
section
variable {h hp hp' h1 h2 hs : Hs} {d x y : D} {xs : List D} {n k c j : Nat} {T T' b R M m : Int} {env : Env} {ns ms ps los his : List Int} {bs : List (List D)} {ds : List (List Int)} {body : MS}
/-! ### boxes of numbers -/
def grow (acc : List (List Int)) (q : Int × Int) : List (List Int) := acc.flatMap fun r => (List.range (q.2 + 1 - q.1).toNat).map fun a : Nat => r ++ [q.1 + (a : Int)]
end
end Mi
-- Spm
set_option Elab.async false
set_option linter.all false
set_option maxRecDepth 100000
set_option maxHeartbeats 2000000
namespace Mi
open PySem L2 PyProof.Rows PySem.Spec
local macro_rules | `(tactic| fail) => `(tactic| first
  | with_reducible refine wp_op ?_
  | ((with_reducible refine wp_var ?_); refine gs_rfl ?_)
  | with_reducible refine wp_c ?_
  | with_reducible refine wp_cons ?_
  | with_reducible refine wp_nil ?_
  | with_reducible refine wp_cb ?_
  | with_reducible refine wp_cbn ?_
  | with_reducible refine wp_tst ?_
  | with_reducible refine wp_if ?_
  | with_reducible refine wp_un ?_
  | with_reducible refine wp_new ?_
  | with_reducible refine wp_box ?_
  | with_reducible refine wp_and ?_
  | with_reducible refine wp_or ?_
  | with_reducible refine wp_not ?_
  | with_reducible refine wp_sl ?_
  | with_reducible refine wp_call ?_
  | with_reducible refine wp_tup ?_
  | with_reducible refine wp_lst ?_
  | with_reducible refine wp_part ?_
  | with_reducible refine wp_mt ?_
  | with_reducible refine wp_iter ?_
  | with_reducible refine wp_range1 ?_
  | with_reducible refine wp_range2 ?_
  | with_reducible refine and_sz (by exact Nat.le_of_ble_eq_true rfl) ?_
  | with_reducible refine ws_seq ?_
  | with_reducible refine ws_set ?_
  | with_reducible refine ws_if ?_
  | with_reducible refine ws_ret ?_
  | with_reducible refine ws_brk ?_
  | with_reducible refine ws_cont ?_
  | with_reducible refine ws_drop ?_
  | with_reducible refine ws_nil ?_
  | with_reducible refine ws_par ?_
  | with_reducible refine ws_asg ?_
  | with_reducible refine tg_tt2 ?_
  | with_reducible refine tg_tup2 ?_
  | with_reducible refine tg_st ?_
  | with_reducible refine tg_n ?_
  | with_reducible refine g_add ?_
  | with_reducible refine g_sub ?_
  | with_reducible refine g_neg ?_
  | with_reducible refine g_lt ?_
  | with_reducible refine g_gt ?_
  | with_reducible refine g_le ?_
  | with_reducible refine g_ge ?_
  | with_reducible refine g_eq ?_
  | with_reducible refine g_ne ?_
  | with_reducible refine g_eqSS ?_
  | with_reducible refine g_neSS ?_
  | with_reducible refine g_eqS ?_
  | with_reducible refine g_neS ?_
  | with_reducible refine g_tst ?_
  | with_reducible refine g_abs ?_
  | with_reducible refine g_int ?_
  | with_reducible refine g_intB ?_
  | with_reducible refine g_max2 ?_
  | with_reducible refine g_min2 ?_
  | with_reducible refine g_pow (by decide) ?_
  | with_reducible refine g_mod (by first | decide | omega) ?_
  | with_reducible refine g_mul (by first | decide | exact mulOk_of (k := 60) (m := 60) (by omega) (by omega) (by omega) (by omega)) ?_
  | with_reducible refine g_div (by first | decide | exact divOk_of (m := 60) (by omega) (by omega)) ?_
  | ((with_reducible apply g_ix); (first | assumption | exact rfl); (first | assumption | exact rfl))
  | with_reducible refine g_lenT ?_
  | with_reducible refine g_lenL ?_
  | ((with_reducible apply g_len); (first | assumption | exact rfl))
  | with_reducible refine g_tupL ?_
  | with_reducible refine g_tupT ?_
  | with_reducible refine g_sumT ?_
  | with_reducible refine g_sumL ?_
  | with_reducible refine g_append ?_ ?_
  | ((with_reducible apply g_addT); (first | assumption | exact rfl); (first | assumption | exact rfl); (simp <;> omega))
  | with_reducible refine g_slT_to ?_
  | with_reducible refine g_slT_from ?_
  | with_reducible refine g_slL_to ?_
  | with_reducible refine g_slL_from ?_
  | with_reducible refine wp_idx ?_
  | with_reducible refine g_isN' ?_
  | with_reducible refine g_notN' ?_
  | with_reducible refine ex_par ?_
  | with_reducible refine ex_par3 ?_
  | with_reducible refine wp_andV ?_
  | with_reducible refine wp_chain ?_
  | ((with_reducible apply g_isi); (exact rfl))
  | with_reducible refine g_neB ?_
  | with_reducible refine g_eqB ?_
  | with_reducible refine wp_orV ?_
  | with_reducible refine wp_notV ?_
  | with_reducible refine ex_bl ?_
  | with_reducible refine ex_int ?_
  | with_reducible refine ex_int1 ?_
  | with_reducible refine g_mulT (by omega) ?_
  | with_reducible refine g_inT ?_
  | with_reducible refine g_inL ?_
  | with_reducible refine g_ninT ?_
  | with_reducible refine if_ntt ?_
  | with_reducible refine if_nff ?_
  | with_reducible refine if_ff ?_
  | with_reducible refine or_ff ?_
  | with_reducible refine or_tt ?_
  | with_reducible refine or_ntt ?_
  | with_reducible refine or_nff ?_
  | with_reducible refine if_tt ?_
  | with_reducible refine g_listT ?_
  | with_reducible exact True.intro
  | with_reducible exact And.intro rfl rfl
  | dsimp only [List.set])
open Co Enc
section
variable {h hp hp' h1 h2 hs : Hs} {d : D} {xs : List D} {n k c j : Nat} {T T' b R M m : Int} {env : Env} {ns ms vs x y : List Int} {o L : List Nat}
/-! ### withdrawn -/
structure Wdn (b : Int) (ns : List Int) (L : List Nat) (y : List Int) : Prop where
  len : y.length = ns.length
  safe : gapI y b = none
  le : ∀ i, i < ns.length → at0 y i ≤ at0 ns i
  same : ∀ i, i < ns.length → i ∉ L → at0 y i = at0 ns i
  tight : ∃ p : Nat → Bool, (∀ i ∈ L, p i = true) ∧ sel p (at0 y) ns.length = Rr b (cn p ns.length)
theorem Wdn.nil (hs : gapI ns b = none) : Wdn b ns [] ns := ⟨rfl, hs, fun _ _ => Int.le_refl _, fun _ _ _ => rfl, fun _ => false, fun i h => by simp at h, by
  rw [cn_none]
  unfold sel
  exact sm_zero _⟩
/-! ### the steps of the thresholds in any order are safe -/
end
end Mi
-- Spn
set_option Elab.async false
set_option linter.all false
set_option maxRecDepth 100000
set_option maxHeartbeats 2000000
namespace Mi
open PySem L2 PyProof.Rows PySem.Spec
local macro_rules | `(tactic| fail) => `(tactic| first
  | with_reducible refine wp_op ?_
  | ((with_reducible refine wp_var ?_); refine gs_rfl ?_)
  | with_reducible refine wp_c ?_
  | with_reducible refine wp_cons ?_
  | with_reducible refine wp_nil ?_
  | with_reducible refine wp_cb ?_
  | with_reducible refine wp_cbn ?_
  | with_reducible refine wp_tst ?_
  | with_reducible refine wp_if ?_
  | with_reducible refine wp_un ?_
  | with_reducible refine wp_new ?_
  | with_reducible refine wp_box ?_
  | with_reducible refine wp_and ?_
  | with_reducible refine wp_or ?_
  | with_reducible refine wp_not ?_
  | with_reducible refine wp_sl ?_
  | with_reducible refine wp_call ?_
  | with_reducible refine wp_tup ?_
  | with_reducible refine wp_lst ?_
  | with_reducible refine wp_part ?_
  | with_reducible refine wp_mt ?_
  | with_reducible refine wp_iter ?_
  | with_reducible refine wp_range1 ?_
  | with_reducible refine wp_range2 ?_
  | with_reducible refine and_sz (by exact Nat.le_of_ble_eq_true rfl) ?_
  | with_reducible refine ws_seq ?_
  | with_reducible refine ws_set ?_
  | with_reducible refine ws_if ?_
  | with_reducible refine ws_ret ?_
  | with_reducible refine ws_brk ?_
  | with_reducible refine ws_cont ?_
  | with_reducible refine ws_drop ?_
  | with_reducible refine ws_nil ?_
  | with_reducible refine ws_par ?_
  | with_reducible refine ws_asg ?_
  | with_reducible refine tg_tt2 ?_
  | with_reducible refine tg_tup2 ?_
  | with_reducible refine tg_st ?_
  | with_reducible refine tg_n ?_
  | with_reducible refine g_add ?_
  | with_reducible refine g_sub ?_
  | with_reducible refine g_neg ?_
  | with_reducible refine g_lt ?_
  | with_reducible refine g_gt ?_
  | with_reducible refine g_le ?_
  | with_reducible refine g_ge ?_
  | with_reducible refine g_eq ?_
  | with_reducible refine g_ne ?_
  | with_reducible refine g_eqSS ?_
  | with_reducible refine g_neSS ?_
  | with_reducible refine g_eqS ?_
  | with_reducible refine g_neS ?_
  | with_reducible refine g_tst ?_
  | with_reducible refine g_abs ?_
  | with_reducible refine g_int ?_
  | with_reducible refine g_intB ?_
  | with_reducible refine g_max2 ?_
  | with_reducible refine g_min2 ?_
  | with_reducible refine g_pow (by decide) ?_
  | with_reducible refine g_mod (by first | decide | omega) ?_
  | with_reducible refine g_mul (by first | decide | exact mulOk_of (k := 60) (m := 60) (by omega) (by omega) (by omega) (by omega)) ?_
  | with_reducible refine g_div (by first | decide | exact divOk_of (m := 60) (by omega) (by omega)) ?_
  | ((with_reducible apply g_ix); (first | assumption | exact rfl); (first | assumption | exact rfl))
  | with_reducible refine g_lenT ?_
  | with_reducible refine g_lenL ?_
  | ((with_reducible apply g_len); (first | assumption | exact rfl))
  | with_reducible refine g_tupL ?_
  | with_reducible refine g_tupT ?_
  | with_reducible refine g_sumT ?_
  | with_reducible refine g_sumL ?_
  | with_reducible refine g_append ?_ ?_
  | ((with_reducible apply g_addT); (first | assumption | exact rfl); (first | assumption | exact rfl); (simp <;> omega))
  | with_reducible refine g_slT_to ?_
  | with_reducible refine g_slT_from ?_
  | with_reducible refine g_slL_to ?_
  | with_reducible refine g_slL_from ?_
  | with_reducible refine wp_idx ?_
  | with_reducible refine g_isN' ?_
  | with_reducible refine g_notN' ?_
  | with_reducible refine ex_par ?_
  | with_reducible refine ex_par3 ?_
  | with_reducible refine wp_andV ?_
  | with_reducible refine wp_chain ?_
  | ((with_reducible apply g_isi); (exact rfl))
  | with_reducible refine g_neB ?_
  | with_reducible refine g_eqB ?_
  | with_reducible refine wp_orV ?_
  | with_reducible refine wp_notV ?_
  | with_reducible refine ex_bl ?_
  | with_reducible refine ex_int ?_
  | with_reducible refine ex_int1 ?_
  | with_reducible refine g_mulT (by omega) ?_
  | with_reducible refine g_inT ?_
  | with_reducible refine g_inL ?_
  | with_reducible refine g_ninT ?_
  | with_reducible refine if_ntt ?_
  | with_reducible refine if_nff ?_
  | with_reducible refine if_ff ?_
  | with_reducible refine or_ff ?_
  | with_reducible refine or_tt ?_
  | with_reducible refine or_ntt ?_
  | with_reducible refine or_nff ?_
  | with_reducible refine if_tt ?_
  | with_reducible refine g_listT ?_
  | with_reducible exact True.intro
  | with_reducible exact And.intro rfl rfl
  | dsimp only [List.set])
open Co Enc
section
variable {h hp hp' h1 h2 hs : Hs} {d : D} {xs : List D} {n k c j : Nat} {T T' b R M m : Int} {env : Env} {ns ms vs x y s : List Int} {o L : List Nat}
/-! ### the senders with the smallest balances -/
def prs (ns : List Int) : List (Int × Int) := ns.zipIdx.map fun a => (a.1, (a.2 : Int))
theorem prs_range : prs ns = (List.range ns.length).map fun i => (at0 ns i, (i : Int)) := by
  unfold prs
  rw [zipIdx_range, List.map_map]; rfl
theorem prs_mem {a : Int × Int} : a ∈ prs ns ↔ ∃ i : Nat, i < ns.length ∧ a = (at0 ns i, (i : Int)) := by
  rw [prs_range, List.mem_map]
  constructor
  · rintro ⟨i, hi, rfl⟩; exact ⟨i, by simpa using hi, rfl⟩
  · rintro ⟨i, hi, rfl⟩; exact ⟨i, by simpa using hi, rfl⟩
def smT (ns : List Int) (k : Nat) : List (Int × Int) := (sortP (prs ns)).take k
def smlI (ns : List Int) (k : Nat) : List Int := sortI ((smT ns k).map (·.2))
/-! ### sets of senders -/
/-! ### in a list of data -/
end
end Mi
-- Spo
set_option Elab.async false
set_option linter.all false
set_option maxRecDepth 100000
set_option maxHeartbeats 2000000
namespace Mi
open PySem L2 PyProof.Rows PySem.Spec
local macro_rules | `(tactic| fail) => `(tactic| first
  | with_reducible refine wp_op ?_
  | ((with_reducible refine wp_var ?_); refine gs_rfl ?_)
  | with_reducible refine wp_c ?_
  | with_reducible refine wp_cons ?_
  | with_reducible refine wp_nil ?_
  | with_reducible refine wp_cb ?_
  | with_reducible refine wp_cbn ?_
  | with_reducible refine wp_tst ?_
  | with_reducible refine wp_if ?_
  | with_reducible refine wp_un ?_
  | with_reducible refine wp_new ?_
  | with_reducible refine wp_box ?_
  | with_reducible refine wp_and ?_
  | with_reducible refine wp_or ?_
  | with_reducible refine wp_not ?_
  | with_reducible refine wp_sl ?_
  | with_reducible refine wp_call ?_
  | with_reducible refine wp_tup ?_
  | with_reducible refine wp_lst ?_
  | with_reducible refine wp_part ?_
  | with_reducible refine wp_mt ?_
  | with_reducible refine wp_iter ?_
  | with_reducible refine wp_range1 ?_
  | with_reducible refine wp_range2 ?_
  | with_reducible refine and_sz (by exact Nat.le_of_ble_eq_true rfl) ?_
  | with_reducible refine ws_seq ?_
  | with_reducible refine ws_set ?_
  | with_reducible refine ws_if ?_
  | with_reducible refine ws_ret ?_
  | with_reducible refine ws_brk ?_
  | with_reducible refine ws_cont ?_
  | with_reducible refine ws_drop ?_
  | with_reducible refine ws_nil ?_
  | with_reducible refine ws_par ?_
  | with_reducible refine ws_asg ?_
  | with_reducible refine tg_tt2 ?_
  | with_reducible refine tg_tup2 ?_
  | with_reducible refine tg_st ?_
  | with_reducible refine tg_n ?_
  | with_reducible refine g_add ?_
  | with_reducible refine g_sub ?_
  | with_reducible refine g_neg ?_
  | with_reducible refine g_lt ?_
  | with_reducible refine g_gt ?_
  | with_reducible refine g_le ?_
  | with_reducible refine g_ge ?_
  | with_reducible refine g_eq ?_
  | with_reducible refine g_ne ?_
  | with_reducible refine g_eqSS ?_
  | with_reducible refine g_neSS ?_
  | with_reducible refine g_eqS ?_
  | with_reducible refine g_neS ?_
  | with_reducible refine g_tst ?_
  | with_reducible refine g_abs ?_
  | with_reducible refine g_int ?_
  | with_reducible refine g_intB ?_
  | with_reducible refine g_max2 ?_
  | with_reducible refine g_min2 ?_
  | with_reducible refine g_pow (by decide) ?_
  | with_reducible refine g_mod (by first | decide | omega) ?_
  | with_reducible refine g_mul (by first | decide | exact mulOk_of (k := 60) (m := 60) (by omega) (by omega) (by omega) (by omega)) ?_
  | with_reducible refine g_div (by first | decide | exact divOk_of (m := 60) (by omega) (by omega)) ?_
  | ((with_reducible apply g_ix); (first | assumption | exact rfl); (first | assumption | exact rfl))
  | with_reducible refine g_lenT ?_
  | with_reducible refine g_lenL ?_
  | ((with_reducible apply g_len); (first | assumption | exact rfl))
  | with_reducible refine g_tupL ?_
  | with_reducible refine g_tupT ?_
  | with_reducible refine g_sumT ?_
  | with_reducible refine g_sumL ?_
  | with_reducible refine g_append ?_ ?_
  | ((with_reducible apply g_addT); (first | assumption | exact rfl); (first | assumption | exact rfl); (simp <;> omega))
  | with_reducible refine g_slT_to ?_
  | with_reducible refine g_slT_from ?_
  | with_reducible refine g_slL_to ?_
  | with_reducible refine g_slL_from ?_
  | with_reducible refine wp_idx ?_
  | with_reducible refine g_isN' ?_
  | with_reducible refine g_notN' ?_
  | with_reducible refine ex_par ?_
  | with_reducible refine ex_par3 ?_
  | with_reducible refine wp_andV ?_
  | with_reducible refine wp_chain ?_
  | ((with_reducible apply g_isi); (exact rfl))
  | with_reducible refine g_neB ?_
  | with_reducible refine g_eqB ?_
  | with_reducible refine wp_orV ?_
  | with_reducible refine wp_notV ?_
  | with_reducible refine ex_bl ?_
  | with_reducible refine ex_int ?_
  | with_reducible refine ex_int1 ?_
  | with_reducible refine g_mulT (by omega) ?_
  | with_reducible refine g_inT ?_
  | with_reducible refine g_inL ?_
  | with_reducible refine g_ninT ?_
  | with_reducible refine if_ntt ?_
  | with_reducible refine if_nff ?_
  | with_reducible refine if_ff ?_
  | with_reducible refine or_ff ?_
  | with_reducible refine or_tt ?_
  | with_reducible refine or_ntt ?_
  | with_reducible refine or_nff ?_
  | with_reducible refine if_tt ?_
  | with_reducible refine g_listT ?_
  | with_reducible exact True.intro
  | with_reducible exact And.intro rfl rfl
  | dsimp only [List.set])
open Co Enc
section
variable {h hp hp' h1 h2 hs : Hs} {d : D} {xs : List D} {n k c j : Nat} {T T' b R m : Int} {env : Env} {ns ms vs x y s : List Int} {o L : List Nat}
/-! ### the falling walk -/
/-! ### costs and values of the amounts up to 10 ** 12 -/
def Am (c : Nat) (ns : List Int) : Prop := ns.length = c ∧ ∀ i, i < c → 0 ≤ at0 ns i ∧ at0 ns i ≤ 10 ^ 12
theorem Am.mem (ha : Am c ns) {z : Int} (hz : z ∈ ns) : 0 ≤ z ∧ z ≤ 10 ^ 12 := by
  obtain ⟨j, hj⟩ := List.mem_iff_getElem?.mp hz
  have hj2 := (List.getElem?_eq_some_iff.mp hj).1
  rw [at0_get hj2] at hj
  cases hj
  exact ha.2 j (by rw [← ha.1]; exact hj2)
end
end Mi
-- Spp
set_option Elab.async false
set_option linter.all false
set_option maxRecDepth 100000
set_option maxHeartbeats 2000000
namespace Mi
open PySem L2 PyProof.Rows PySem.Spec
local macro_rules | `(tactic| fail) => `(tactic| first
  | with_reducible refine wp_op ?_
  | ((with_reducible refine wp_var ?_); refine gs_rfl ?_)
  | with_reducible refine wp_c ?_
  | with_reducible refine wp_cons ?_
  | with_reducible refine wp_nil ?_
  | with_reducible refine wp_cb ?_
  | with_reducible refine wp_cbn ?_
  | with_reducible refine wp_tst ?_
  | with_reducible refine wp_if ?_
  | with_reducible refine wp_un ?_
  | with_reducible refine wp_new ?_
  | with_reducible refine wp_box ?_
  | with_reducible refine wp_and ?_
  | with_reducible refine wp_or ?_
  | with_reducible refine wp_not ?_
  | with_reducible refine wp_sl ?_
  | with_reducible refine wp_call ?_
  | with_reducible refine wp_tup ?_
  | with_reducible refine wp_lst ?_
  | with_reducible refine wp_part ?_
  | with_reducible refine wp_mt ?_
  | with_reducible refine wp_iter ?_
  | with_reducible refine wp_range1 ?_
  | with_reducible refine wp_range2 ?_
  | with_reducible refine and_sz (by exact Nat.le_of_ble_eq_true rfl) ?_
  | with_reducible refine ws_seq ?_
  | with_reducible refine ws_set ?_
  | with_reducible refine ws_if ?_
  | with_reducible refine ws_ret ?_
  | with_reducible refine ws_brk ?_
  | with_reducible refine ws_cont ?_
  | with_reducible refine ws_drop ?_
  | with_reducible refine ws_nil ?_
  | with_reducible refine ws_par ?_
  | with_reducible refine ws_asg ?_
  | with_reducible refine tg_tt2 ?_
  | with_reducible refine tg_tup2 ?_
  | with_reducible refine tg_st ?_
  | with_reducible refine tg_n ?_
  | with_reducible refine g_add ?_
  | with_reducible refine g_sub ?_
  | with_reducible refine g_neg ?_
  | with_reducible refine g_lt ?_
  | with_reducible refine g_gt ?_
  | with_reducible refine g_le ?_
  | with_reducible refine g_ge ?_
  | with_reducible refine g_eq ?_
  | with_reducible refine g_ne ?_
  | with_reducible refine g_eqSS ?_
  | with_reducible refine g_neSS ?_
  | with_reducible refine g_eqS ?_
  | with_reducible refine g_neS ?_
  | with_reducible refine g_tst ?_
  | with_reducible refine g_abs ?_
  | with_reducible refine g_int ?_
  | with_reducible refine g_intB ?_
  | with_reducible refine g_max2 ?_
  | with_reducible refine g_min2 ?_
  | with_reducible refine g_pow (by decide) ?_
  | with_reducible refine g_mod (by first | decide | omega) ?_
  | with_reducible refine g_mul (by first | decide | exact mulOk_of (k := 60) (m := 60) (by omega) (by omega) (by omega) (by omega)) ?_
  | with_reducible refine g_div (by first | decide | exact divOk_of (m := 60) (by omega) (by omega)) ?_
  | ((with_reducible apply g_ix); (first | assumption | exact rfl); (first | assumption | exact rfl))
  | with_reducible refine g_lenT ?_
  | with_reducible refine g_lenL ?_
  | ((with_reducible apply g_len); (first | assumption | exact rfl))
  | with_reducible refine g_tupL ?_
  | with_reducible refine g_tupT ?_
  | with_reducible refine g_sumT ?_
  | with_reducible refine g_sumL ?_
  | with_reducible refine g_append ?_ ?_
  | ((with_reducible apply g_addT); (first | assumption | exact rfl); (first | assumption | exact rfl); (simp <;> omega))
  | with_reducible refine g_slT_to ?_
  | with_reducible refine g_slT_from ?_
  | with_reducible refine g_slL_to ?_
  | with_reducible refine g_slL_from ?_
  | with_reducible refine wp_idx ?_
  | with_reducible refine g_isN' ?_
  | with_reducible refine g_notN' ?_
  | with_reducible refine ex_par ?_
  | with_reducible refine ex_par3 ?_
  | with_reducible refine wp_andV ?_
  | with_reducible refine wp_chain ?_
  | ((with_reducible apply g_isi); (exact rfl))
  | with_reducible refine g_neB ?_
  | with_reducible refine g_eqB ?_
  | with_reducible refine wp_orV ?_
  | with_reducible refine wp_notV ?_
  | with_reducible refine ex_bl ?_
  | with_reducible refine ex_int ?_
  | with_reducible refine ex_int1 ?_
  | with_reducible refine g_mulT (by omega) ?_
  | with_reducible refine g_inT ?_
  | with_reducible refine g_inL ?_
  | with_reducible refine g_ninT ?_
  | with_reducible refine if_ntt ?_
  | with_reducible refine if_nff ?_
  | with_reducible refine if_ff ?_
  | with_reducible refine or_ff ?_
  | with_reducible refine or_tt ?_
  | with_reducible refine or_ntt ?_
  | with_reducible refine or_nff ?_
  | with_reducible refine if_tt ?_
  | with_reducible refine g_listT ?_
  | with_reducible exact True.intro
  | with_reducible exact And.intro rfl rfl
  | dsimp only [List.set])
open Co Enc
section
variable {h hp h1 h2 : Hs} {n c j : Nat} {T T' b R m : Int} {ns vs y x0 : List Int} {L : List Nat} {x : D}
theorem g_notB {h : Hs} {Q : D → Prop} {p q : Bool} (z : Q (.bl (!decide (p = q)))) : Gt (gNotB h (.bl p) (.bl q)) Q := ⟨_, rfl, z⟩
end
end Mi
-- Th4
set_option Elab.async false
set_option linter.all false
set_option maxRecDepth 100000
set_option maxHeartbeats 2000000
namespace Mi
section
variable {ns ys ms l : List Int} {b L : Int} {i j k n : Nat}
/-! ### the gap -/
/-! ### what is lacking -/
def lvl (ns : List Int) (b : Int) (k : Nat) : Int := (SK ns k - b) / (k : Int)
/-! ### how many ticks -/
end
end Mi
-- Spq
set_option Elab.async false
set_option linter.all false
set_option maxRecDepth 100000
set_option maxHeartbeats 2000000
namespace Mi
open PySem L2 PyProof.Rows PySem.Spec
local macro_rules | `(tactic| fail) => `(tactic| first
  | with_reducible refine wp_op ?_
  | ((with_reducible refine wp_var ?_); refine gs_rfl ?_)
  | with_reducible refine wp_c ?_
  | with_reducible refine wp_cons ?_
  | with_reducible refine wp_nil ?_
  | with_reducible refine wp_cb ?_
  | with_reducible refine wp_cbn ?_
  | with_reducible refine wp_tst ?_
  | with_reducible refine wp_if ?_
  | with_reducible refine wp_un ?_
  | with_reducible refine wp_new ?_
  | with_reducible refine wp_box ?_
  | with_reducible refine wp_and ?_
  | with_reducible refine wp_or ?_
  | with_reducible refine wp_not ?_
  | with_reducible refine wp_sl ?_
  | with_reducible refine wp_call ?_
  | with_reducible refine wp_tup ?_
  | with_reducible refine wp_lst ?_
  | with_reducible refine wp_part ?_
  | with_reducible refine wp_mt ?_
  | with_reducible refine wp_iter ?_
  | with_reducible refine wp_range1 ?_
  | with_reducible refine wp_range2 ?_
  | with_reducible refine and_sz (by exact Nat.le_of_ble_eq_true rfl) ?_
  | with_reducible refine ws_seq ?_
  | with_reducible refine ws_set ?_
  | with_reducible refine ws_if ?_
  | with_reducible refine ws_ret ?_
  | with_reducible refine ws_brk ?_
  | with_reducible refine ws_cont ?_
  | with_reducible refine ws_drop ?_
  | with_reducible refine ws_nil ?_
  | with_reducible refine ws_par ?_
  | with_reducible refine ws_asg ?_
  | with_reducible refine tg_tt2 ?_
  | with_reducible refine tg_tup2 ?_
  | with_reducible refine tg_st ?_
  | with_reducible refine tg_n ?_
  | with_reducible refine g_add ?_
  | with_reducible refine g_sub ?_
  | with_reducible refine g_neg ?_
  | with_reducible refine g_lt ?_
  | with_reducible refine g_gt ?_
  | with_reducible refine g_le ?_
  | with_reducible refine g_ge ?_
  | with_reducible refine g_eq ?_
  | with_reducible refine g_ne ?_
  | with_reducible refine g_eqSS ?_
  | with_reducible refine g_neSS ?_
  | with_reducible refine g_eqS ?_
  | with_reducible refine g_neS ?_
  | with_reducible refine g_tst ?_
  | with_reducible refine g_abs ?_
  | with_reducible refine g_int ?_
  | with_reducible refine g_intB ?_
  | with_reducible refine g_max2 ?_
  | with_reducible refine g_min2 ?_
  | with_reducible refine g_pow (by decide) ?_
  | with_reducible refine g_mod (by first | decide | omega) ?_
  | with_reducible refine g_mul (by first | decide | exact mulOk_of (k := 60) (m := 60) (by omega) (by omega) (by omega) (by omega)) ?_
  | with_reducible refine g_div (by first | decide | exact divOk_of (m := 60) (by omega) (by omega)) ?_
  | ((with_reducible apply g_ix); (first | assumption | exact rfl); (first | assumption | exact rfl))
  | with_reducible refine g_lenT ?_
  | with_reducible refine g_lenL ?_
  | ((with_reducible apply g_len); (first | assumption | exact rfl))
  | with_reducible refine g_tupL ?_
  | with_reducible refine g_tupT ?_
  | with_reducible refine g_sumT ?_
  | with_reducible refine g_sumL ?_
  | with_reducible refine g_append ?_ ?_
  | ((with_reducible apply g_addT); (first | assumption | exact rfl); (first | assumption | exact rfl); (simp <;> omega))
  | with_reducible refine g_slT_to ?_
  | with_reducible refine g_slT_from ?_
  | with_reducible refine g_slL_to ?_
  | with_reducible refine g_slL_from ?_
  | with_reducible refine wp_idx ?_
  | with_reducible refine g_isN' ?_
  | with_reducible refine g_notN' ?_
  | with_reducible refine ex_par ?_
  | with_reducible refine ex_par3 ?_
  | with_reducible refine wp_andV ?_
  | with_reducible refine wp_chain ?_
  | ((with_reducible apply g_isi); (exact rfl))
  | with_reducible refine g_neB ?_
  | with_reducible refine g_eqB ?_
  | with_reducible refine wp_orV ?_
  | with_reducible refine wp_notV ?_
  | with_reducible refine ex_bl ?_
  | with_reducible refine ex_int ?_
  | with_reducible refine ex_int1 ?_
  | with_reducible refine g_mulT (by omega) ?_
  | with_reducible refine g_inT ?_
  | with_reducible refine g_inL ?_
  | with_reducible refine g_ninT ?_
  | with_reducible refine if_ntt ?_
  | with_reducible refine if_nff ?_
  | with_reducible refine if_ff ?_
  | with_reducible refine or_ff ?_
  | with_reducible refine or_tt ?_
  | with_reducible refine or_ntt ?_
  | with_reducible refine or_nff ?_
  | with_reducible refine if_tt ?_
  | with_reducible refine g_listT ?_
  | with_reducible exact True.intro
  | with_reducible exact And.intro rfl rfl
  | dsimp only [List.set])
open Co Enc
end Mi
-- Spr
set_option Elab.async false
set_option linter.all false
set_option maxRecDepth 100000
set_option maxHeartbeats 2000000
namespace Mi
open PySem L2 PyProof.Rows PySem.Spec
local macro_rules | `(tactic| fail) => `(tactic| first
  | with_reducible refine wp_op ?_
  | ((with_reducible refine wp_var ?_); refine gs_rfl ?_)
  | with_reducible refine wp_c ?_
  | with_reducible refine wp_cons ?_
  | with_reducible refine wp_nil ?_
  | with_reducible refine wp_cb ?_
  | with_reducible refine wp_cbn ?_
  | with_reducible refine wp_tst ?_
  | with_reducible refine wp_if ?_
  | with_reducible refine wp_un ?_
  | with_reducible refine wp_new ?_
  | with_reducible refine wp_box ?_
  | with_reducible refine wp_and ?_
  | with_reducible refine wp_or ?_
  | with_reducible refine wp_not ?_
  | with_reducible refine wp_sl ?_
  | with_reducible refine wp_call ?_
  | with_reducible refine wp_tup ?_
  | with_reducible refine wp_lst ?_
  | with_reducible refine wp_part ?_
  | with_reducible refine wp_mt ?_
  | with_reducible refine wp_iter ?_
  | with_reducible refine wp_range1 ?_
  | with_reducible refine wp_range2 ?_
  | with_reducible refine and_sz (by exact Nat.le_of_ble_eq_true rfl) ?_
  | with_reducible refine ws_seq ?_
  | with_reducible refine ws_set ?_
  | with_reducible refine ws_if ?_
  | with_reducible refine ws_ret ?_
  | with_reducible refine ws_brk ?_
  | with_reducible refine ws_cont ?_
  | with_reducible refine ws_drop ?_
  | with_reducible refine ws_nil ?_
  | with_reducible refine ws_par ?_
  | with_reducible refine ws_asg ?_
  | with_reducible refine tg_tt2 ?_
  | with_reducible refine tg_tup2 ?_
  | with_reducible refine tg_st ?_
  | with_reducible refine tg_n ?_
  | with_reducible refine g_add ?_
  | with_reducible refine g_sub ?_
  | with_reducible refine g_neg ?_
  | with_reducible refine g_lt ?_
  | with_reducible refine g_gt ?_
  | with_reducible refine g_le ?_
  | with_reducible refine g_ge ?_
  | with_reducible refine g_eq ?_
  | with_reducible refine g_ne ?_
  | with_reducible refine g_eqSS ?_
  | with_reducible refine g_neSS ?_
  | with_reducible refine g_eqS ?_
  | with_reducible refine g_neS ?_
  | with_reducible refine g_tst ?_
  | with_reducible refine g_abs ?_
  | with_reducible refine g_int ?_
  | with_reducible refine g_intB ?_
  | with_reducible refine g_max2 ?_
  | with_reducible refine g_min2 ?_
  | with_reducible refine g_pow (by decide) ?_
  | with_reducible refine g_mod (by first | decide | omega) ?_
  | with_reducible refine g_mul (by first | decide | exact mulOk_of (k := 60) (m := 60) (by omega) (by omega) (by omega) (by omega)) ?_
  | with_reducible refine g_div (by first | decide | exact divOk_of (m := 60) (by omega) (by omega)) ?_
  | ((with_reducible apply g_ix); (first | assumption | exact rfl); (first | assumption | exact rfl))
  | with_reducible refine g_lenT ?_
  | with_reducible refine g_lenL ?_
  | ((with_reducible apply g_len); (first | assumption | exact rfl))
  | with_reducible refine g_tupL ?_
  | with_reducible refine g_tupT ?_
  | with_reducible refine g_sumT ?_
  | with_reducible refine g_sumL ?_
  | with_reducible refine g_append ?_ ?_
  | ((with_reducible apply g_addT); (first | assumption | exact rfl); (first | assumption | exact rfl); (simp <;> omega))
  | with_reducible refine g_slT_to ?_
  | with_reducible refine g_slT_from ?_
  | with_reducible refine g_slL_to ?_
  | with_reducible refine g_slL_from ?_
  | with_reducible refine wp_idx ?_
  | with_reducible refine g_isN' ?_
  | with_reducible refine g_notN' ?_
  | with_reducible refine ex_par ?_
  | with_reducible refine ex_par3 ?_
  | with_reducible refine wp_andV ?_
  | with_reducible refine wp_chain ?_
  | ((with_reducible apply g_isi); (exact rfl))
  | with_reducible refine g_neB ?_
  | with_reducible refine g_eqB ?_
  | with_reducible refine wp_orV ?_
  | with_reducible refine wp_notV ?_
  | with_reducible refine ex_bl ?_
  | with_reducible refine ex_int ?_
  | with_reducible refine ex_int1 ?_
  | with_reducible refine g_mulT (by omega) ?_
  | with_reducible refine g_inT ?_
  | with_reducible refine g_inL ?_
  | with_reducible refine g_ninT ?_
  | with_reducible refine if_ntt ?_
  | with_reducible refine if_nff ?_
  | with_reducible refine if_ff ?_
  | with_reducible refine or_ff ?_
  | with_reducible refine or_tt ?_
  | with_reducible refine or_ntt ?_
  | with_reducible refine or_nff ?_
  | with_reducible refine if_tt ?_
  | with_reducible refine g_listT ?_
  | with_reducible exact True.intro
  | with_reducible exact And.intro rfl rfl
  | dsimp only [List.set])
open Co Enc
section
variable {h hp hp' h1 h2 hs : Hs} {d : D} {xs : List D} {n k c j i : Nat} {T T' b R M m L lam A : Int} {env : Env} {ns ms vs ts x y s l : List Int}
/-! ### levelling -/
def exc (lam : Int) (l : List Int) : Int := (l.map fun x => max 0 (x - lam)).sum
/-- the demand of an attack -/
structure Atk (ns : List Int) (b : Int) (i : Nat) (ds : List Int) : Prop where
  len : ds.length = ns.length
  nn : ∀ a, a < ns.length → 0 ≤ at0 ds a
  sum : ds.sum = b
  out : ∀ a : Nat, a < ns.length → (a : Int) ∉ smlI ns (i + 1) → at0 ds a = 0
  lev : ∀ a, a < ns.length → 0 < at0 ds a → lvl ns b (i + 1) ≤ at0 ns a - at0 ds a
/-- what attack returns -/
def AtkR (ns : List Int) (b : Int) (i : Nat) (ds : List Int) : Prop := (minI ns < b ∧ ds = (List.replicate ns.length 0).set (argm ns) (minI ns + 1)) ∨ (b ≤ minI ns ∧ Atk ns b i ds)
theorem at0_le_sum : ∀ {l : List Int} {a : Nat}, (∀ q, q < l.length → 0 ≤ at0 l q) → a < l.length → at0 l a ≤ l.sum
  | [], a, _, h => by simp at h
  | x :: l, a, h0, h => by
    have e : ∀ q, at0 (x :: l) (q + 1) = at0 l q := fun q => congrFun (at0_cons (x := x) (ns := l)) q
    have hl : ∀ q, q < l.length → 0 ≤ at0 l q := fun q hq => by rw [← e q]; exact h0 (q + 1) (by simp; omega)
    have e0 : at0 (x :: l) 0 = x := rfl
    rw [List.sum_cons]
    cases a with
    | zero => rw [e0]; have := sum_nn hl; omega
    | succ a =>
      rw [e a]
      have := at0_le_sum hl (a := a) (by simp at h; omega)
      have := h0 0 (by simp)
      omega
theorem Atk.le {ds : List Int} (K : Atk ns b i ds) {a : Nat} (ha : a < ns.length) : at0 ds a ≤ b := by
  have := at0_le_sum (l := ds) (a := a) (fun q hq => K.nn q (by rw [← K.len]; exact hq)) (by rw [K.len]; exact ha)
  rw [K.sum] at this; exact this
end
end Mi
-- Sps
set_option Elab.async false
set_option linter.all false
set_option maxRecDepth 100000
set_option maxHeartbeats 2000000
namespace Mi
open PySem L2 PyProof.Rows PySem.Spec
local macro_rules | `(tactic| fail) => `(tactic| first
  | with_reducible refine wp_op ?_
  | ((with_reducible refine wp_var ?_); refine gs_rfl ?_)
  | with_reducible refine wp_c ?_
  | with_reducible refine wp_cons ?_
  | with_reducible refine wp_nil ?_
  | with_reducible refine wp_cb ?_
  | with_reducible refine wp_cbn ?_
  | with_reducible refine wp_tst ?_
  | with_reducible refine wp_if ?_
  | with_reducible refine wp_un ?_
  | with_reducible refine wp_new ?_
  | with_reducible refine wp_box ?_
  | with_reducible refine wp_and ?_
  | with_reducible refine wp_or ?_
  | with_reducible refine wp_not ?_
  | with_reducible refine wp_sl ?_
  | with_reducible refine wp_call ?_
  | with_reducible refine wp_tup ?_
  | with_reducible refine wp_lst ?_
  | with_reducible refine wp_part ?_
  | with_reducible refine wp_mt ?_
  | with_reducible refine wp_iter ?_
  | with_reducible refine wp_range1 ?_
  | with_reducible refine wp_range2 ?_
  | with_reducible refine and_sz (by exact Nat.le_of_ble_eq_true rfl) ?_
  | with_reducible refine ws_seq ?_
  | with_reducible refine ws_set ?_
  | with_reducible refine ws_if ?_
  | with_reducible refine ws_ret ?_
  | with_reducible refine ws_brk ?_
  | with_reducible refine ws_cont ?_
  | with_reducible refine ws_drop ?_
  | with_reducible refine ws_nil ?_
  | with_reducible refine ws_par ?_
  | with_reducible refine ws_asg ?_
  | with_reducible refine tg_tt2 ?_
  | with_reducible refine tg_tup2 ?_
  | with_reducible refine tg_st ?_
  | with_reducible refine tg_n ?_
  | with_reducible refine g_add ?_
  | with_reducible refine g_sub ?_
  | with_reducible refine g_neg ?_
  | with_reducible refine g_lt ?_
  | with_reducible refine g_gt ?_
  | with_reducible refine g_le ?_
  | with_reducible refine g_ge ?_
  | with_reducible refine g_eq ?_
  | with_reducible refine g_ne ?_
  | with_reducible refine g_eqSS ?_
  | with_reducible refine g_neSS ?_
  | with_reducible refine g_eqS ?_
  | with_reducible refine g_neS ?_
  | with_reducible refine g_tst ?_
  | with_reducible refine g_abs ?_
  | with_reducible refine g_int ?_
  | with_reducible refine g_intB ?_
  | with_reducible refine g_max2 ?_
  | with_reducible refine g_min2 ?_
  | with_reducible refine g_pow (by decide) ?_
  | with_reducible refine g_mod (by first | decide | omega) ?_
  | with_reducible refine g_mul (by first | decide | exact mulOk_of (k := 60) (m := 60) (by omega) (by omega) (by omega) (by omega)) ?_
  | with_reducible refine g_div (by first | decide | exact divOk_of (m := 60) (by omega) (by omega)) ?_
  | ((with_reducible apply g_ix); (first | assumption | exact rfl); (first | assumption | exact rfl))
  | with_reducible refine g_lenT ?_
  | with_reducible refine g_lenL ?_
  | ((with_reducible apply g_len); (first | assumption | exact rfl))
  | with_reducible refine g_tupL ?_
  | with_reducible refine g_tupT ?_
  | with_reducible refine g_sumT ?_
  | with_reducible refine g_sumL ?_
  | with_reducible refine g_append ?_ ?_
  | ((with_reducible apply g_addT); (first | assumption | exact rfl); (first | assumption | exact rfl); (simp <;> omega))
  | with_reducible refine g_slT_to ?_
  | with_reducible refine g_slT_from ?_
  | with_reducible refine g_slL_to ?_
  | with_reducible refine g_slL_from ?_
  | with_reducible refine wp_idx ?_
  | with_reducible refine g_isN' ?_
  | with_reducible refine g_notN' ?_
  | with_reducible refine ex_par ?_
  | with_reducible refine ex_par3 ?_
  | with_reducible refine wp_andV ?_
  | with_reducible refine wp_chain ?_
  | ((with_reducible apply g_isi); (exact rfl))
  | with_reducible refine g_neB ?_
  | with_reducible refine g_eqB ?_
  | with_reducible refine wp_orV ?_
  | with_reducible refine wp_notV ?_
  | with_reducible refine ex_bl ?_
  | with_reducible refine ex_int ?_
  | with_reducible refine ex_int1 ?_
  | with_reducible refine g_mulT (by omega) ?_
  | with_reducible refine g_inT ?_
  | with_reducible refine g_inL ?_
  | with_reducible refine g_ninT ?_
  | with_reducible refine if_ntt ?_
  | with_reducible refine if_nff ?_
  | with_reducible refine if_ff ?_
  | with_reducible refine or_ff ?_
  | with_reducible refine or_tt ?_
  | with_reducible refine or_ntt ?_
  | with_reducible refine or_nff ?_
  | with_reducible refine if_tt ?_
  | with_reducible refine g_listT ?_
  | with_reducible exact True.intro
  | with_reducible exact And.intro rfl rfl
  | dsimp only [List.set])
open Co Enc
section
variable {h hp hp' h1 h2 hs : Hs} {d : D} {xs : List D} {n k c j i : Nat} {T T' b R M m L : Int} {env : Env} {ns ms vs ds x y s l : List Int}
/-! ### the steps of the thresholds -/
/-! ### stalls -/
theorem any_hit (hl : ds.length = ns.length) (hj : j < ns.length) (h : at0 ns j < at0 ds j) : ((ds.zip ns).map fun a => decide (a.2 < a.1)).any id = true := by
  rw [List.any_map, List.any_eq_true]
  refine ⟨(at0 ds j, at0 ns j), ?_, by simpa using h⟩
  rw [List.mem_iff_getElem?]
  exact ⟨j, List.getElem?_zip_eq_some.mpr ⟨at0_get (by omega), at0_get hj⟩⟩
theorem any_mis (hl : ds.length = ns.length) (h : ∀ j, j < ns.length → at0 ds j ≤ at0 ns j) : ((ds.zip ns).map fun a => decide (a.2 < a.1)).any id = false := by
  rw [List.any_map, List.any_eq_false]
  rintro ⟨u, w⟩ hz
  obtain ⟨j, hj⟩ := List.mem_iff_getElem?.mp hz
  rw [List.getElem?_zip_eq_some] at hj
  have hjl := (List.getElem?_eq_some_iff.mp hj.2).1
  have e1 := hj.1
  have e2 := hj.2
  rw [at0_get (by omega)] at e1 e2
  have := h j hjl
  have e1 := Option.some.inj e1
  have e2 := Option.some.inj e2
  simp at e1 e2 ⊢; omega
theorem AtkR.len (K : AtkR ns b i ds) : ds.length = ns.length := by
  rcases K with ⟨_, rfl⟩ | ⟨_, K⟩
  · simp
  · exact K.len
/-- does the attack stall at once -/
theorem AtkR.any (K : AtkR ns b i ds) (hne : ns ≠ []) (h0 : ∀ a, a < ns.length → 0 ≤ at0 ns a) : ((ds.zip ns).map fun a => decide (a.2 < a.1)).any id = decide (minI ns < b) := by
  obtain ⟨_, a2, a3, _, a5⟩ := argm_ok hne
  have kl := K.len
  rcases K with ⟨c, rfl⟩ | ⟨c, K⟩
  · rw [decide_eq_true c]
    refine any_hit kl a2 ?_
    rw [at0_set (by simpa using a2), if_pos rfl, a3]; omega
  · rw [decide_eq_false (by omega)]
    refine any_mis kl fun j hj => ?_
    have := K.le hj
    have := a5 j hj
    omega
/-- the balances that an attack is led through -/
def Led (ns : List Int) (b : Int) (i : Nat) : Prop := (∀ a, a < ns.length → 0 ≤ at0 ns a) ∧ gapI ns b = some i
theorem Led.mem (L : Led ns b i) (hM : ns.sum ≤ M) : ∀ x ∈ ns, 0 ≤ x ∧ x ≤ M := fun x hx => by
  obtain ⟨a, ha⟩ := List.mem_iff_getElem?.mp hx
  have hl := (List.getElem?_eq_some_iff.mp ha).1
  rw [at0_get hl] at ha
  cases ha
  have := at0_le_sum L.1 hl
  exact ⟨L.1 a hl, by omega⟩
end
end Mi
-- Spt
set_option Elab.async false
set_option linter.all false
set_option maxRecDepth 100000
set_option maxHeartbeats 2000000
namespace Mi
open PySem L2 PyProof.Rows PySem.Spec
local macro_rules | `(tactic| fail) => `(tactic| first
  | with_reducible refine wp_op ?_
  | ((with_reducible refine wp_var ?_); refine gs_rfl ?_)
  | with_reducible refine wp_c ?_
  | with_reducible refine wp_cons ?_
  | with_reducible refine wp_nil ?_
  | with_reducible refine wp_cb ?_
  | with_reducible refine wp_cbn ?_
  | with_reducible refine wp_tst ?_
  | with_reducible refine wp_if ?_
  | with_reducible refine wp_un ?_
  | with_reducible refine wp_new ?_
  | with_reducible refine wp_box ?_
  | with_reducible refine wp_and ?_
  | with_reducible refine wp_or ?_
  | with_reducible refine wp_not ?_
  | with_reducible refine wp_sl ?_
  | with_reducible refine wp_call ?_
  | with_reducible refine wp_tup ?_
  | with_reducible refine wp_lst ?_
  | with_reducible refine wp_part ?_
  | with_reducible refine wp_mt ?_
  | with_reducible refine wp_iter ?_
  | with_reducible refine wp_range1 ?_
  | with_reducible refine wp_range2 ?_
  | with_reducible refine and_sz (by exact Nat.le_of_ble_eq_true rfl) ?_
  | with_reducible refine ws_seq ?_
  | with_reducible refine ws_set ?_
  | with_reducible refine ws_if ?_
  | with_reducible refine ws_ret ?_
  | with_reducible refine ws_brk ?_
  | with_reducible refine ws_cont ?_
  | with_reducible refine ws_drop ?_
  | with_reducible refine ws_nil ?_
  | with_reducible refine ws_par ?_
  | with_reducible refine ws_asg ?_
  | with_reducible refine tg_tt2 ?_
  | with_reducible refine tg_tup2 ?_
  | with_reducible refine tg_st ?_
  | with_reducible refine tg_n ?_
  | with_reducible refine g_add ?_
  | with_reducible refine g_sub ?_
  | with_reducible refine g_neg ?_
  | with_reducible refine g_lt ?_
  | with_reducible refine g_gt ?_
  | with_reducible refine g_le ?_
  | with_reducible refine g_ge ?_
  | with_reducible refine g_eq ?_
  | with_reducible refine g_ne ?_
  | with_reducible refine g_eqSS ?_
  | with_reducible refine g_neSS ?_
  | with_reducible refine g_eqS ?_
  | with_reducible refine g_neS ?_
  | with_reducible refine g_tst ?_
  | with_reducible refine g_abs ?_
  | with_reducible refine g_int ?_
  | with_reducible refine g_intB ?_
  | with_reducible refine g_max2 ?_
  | with_reducible refine g_min2 ?_
  | with_reducible refine g_pow (by decide) ?_
  | with_reducible refine g_mod (by first | decide | omega) ?_
  | with_reducible refine g_mul (by first | decide | exact mulOk_of (k := 60) (m := 60) (by omega) (by omega) (by omega) (by omega)) ?_
  | with_reducible refine g_div (by first | decide | exact divOk_of (m := 60) (by omega) (by omega)) ?_
  | ((with_reducible apply g_ix); (first | assumption | exact rfl); (first | assumption | exact rfl))
  | with_reducible refine g_lenT ?_
  | with_reducible refine g_lenL ?_
  | ((with_reducible apply g_len); (first | assumption | exact rfl))
  | with_reducible refine g_tupL ?_
  | with_reducible refine g_tupT ?_
  | with_reducible refine g_sumT ?_
  | with_reducible refine g_sumL ?_
  | with_reducible refine g_append ?_ ?_
  | ((with_reducible apply g_addT); (first | assumption | exact rfl); (first | assumption | exact rfl); (simp <;> omega))
  | with_reducible refine g_slT_to ?_
  | with_reducible refine g_slT_from ?_
  | with_reducible refine g_slL_to ?_
  | with_reducible refine g_slL_from ?_
  | with_reducible refine wp_idx ?_
  | with_reducible refine g_isN' ?_
  | with_reducible refine g_notN' ?_
  | with_reducible refine ex_par ?_
  | with_reducible refine ex_par3 ?_
  | with_reducible refine wp_andV ?_
  | with_reducible refine wp_chain ?_
  | ((with_reducible apply g_isi); (exact rfl))
  | with_reducible refine g_neB ?_
  | with_reducible refine g_eqB ?_
  | with_reducible refine wp_orV ?_
  | with_reducible refine wp_notV ?_
  | with_reducible refine ex_bl ?_
  | with_reducible refine ex_int ?_
  | with_reducible refine ex_int1 ?_
  | with_reducible refine g_mulT (by omega) ?_
  | with_reducible refine g_inT ?_
  | with_reducible refine g_inL ?_
  | with_reducible refine g_ninT ?_
  | with_reducible refine if_ntt ?_
  | with_reducible refine if_nff ?_
  | with_reducible refine if_ff ?_
  | with_reducible refine or_ff ?_
  | with_reducible refine or_tt ?_
  | with_reducible refine or_ntt ?_
  | with_reducible refine or_nff ?_
  | with_reducible refine if_tt ?_
  | with_reducible refine g_listT ?_
  | with_reducible exact True.intro
  | with_reducible exact And.intro rfl rfl
  | dsimp only [List.set])
open Co Enc
end Mi
-- MirGm
set_option Elab.async false
set_option linter.all false
set_option maxRecDepth 100000
set_option maxHeartbeats 4000000
namespace Mi
open PySem L2 PyProof.Rows PySem.Spec HT
/-! ### a box that no one may change for a while -/
section
variable {X : Cx} {W : WX} {K : PySem.W.Frag} {H H' H1 H2 : Hp} {φ φ' φ1 φ2 : Ph} {hp hp' hp1 hp2 : Hs} {v : V} {d : D} {vs : List V} {ds xs : List D} {σ : L2.St} {env env' : Env} {Q : VK} {a : Addr} {n : Nat} {ob : Ob}
theorem Sls.shr (z : Shr hp.length φ hp φ' hp') (l : Sls K H φ hp σ env) : Sls K H φ' hp' σ env :=
  ⟨l.1, fun i d h => let ⟨v, e, r⟩ := l.2 i d h; ⟨v, e, Rep.shr z r (Rep.low r)⟩⟩
end
/-! ### the walks of a dict whose keys are tuples of ints -/
/-! ### the mirror's words for them -/
section
variable {X : Cx} {W : WX} {K : PySem.W.Frag} {H H' H1 H2 : Hp} {φ φ' φ1 φ2 : Ph} {hp hp' hp1 hp2 : Hs} {v : V} {d : D} {vs : List V} {ds xs : List D} {σ : L2.St} {env env' : Env} {Q : VK} {qs : List Qd} {m : Mp} {ns : List Int} {a : Addr} {o : Obj} {n : Nat}
theorem QM.get : ∀ {qs : List Qd} {m : Mp} {i : Nat} {e : List Int × D}, QM K H φ hp qs m → m[i]? = some e → ∃ q, qs[i]? = some q ∧ QE K H φ hp q e
  | _, [], i, e, r, g => by simp at g
  | _ :: _, _ :: _, 0, e, .cons h r, g => by cases g; exact ⟨_, rfl, h⟩
  | _ :: _, _ :: _, i + 1, e, .cons h r, g => by simpa using QM.get (i := i) r (by simpa using g)
theorem QM.mono (s : SR K H φ hp) (x : Sub H φ hp H' φ' hp') : ∀ {qs : List Qd} {m : Mp}, QM K H φ hp qs m → QM K H' φ' hp' qs m
  | _, _, .nil => .nil
  | _, _, .cons ⟨h1, h2, h3, h4⟩ r => .cons ⟨h1, ext_sqT s x h2, h3.monoS s x, h4.monoS s x⟩ (QM.mono s x r)
theorem QM.shr (z : Shr hp.length φ hp φ' hp') : ∀ {qs : List Qd} {m : Mp}, QM K H φ hp qs m → QM K H φ' hp' qs m
  | _, _, .nil => .nil
  | _, _, .cons ⟨h1, h2, h3, h4⟩ r => .cons ⟨h1, h2, Rep.shr z h3 (Rep.low h3), Rep.shr z h4 (Rep.low h4)⟩ (QM.shr z r)
variable {tg e : Expr} {ma : M D} {apos cpos : Pos}
/-! ### for over a dict -/
end
end Mi
-- MirGn
set_option Elab.async false
set_option linter.all false
set_option maxRecDepth 100000
set_option maxHeartbeats 4000000
namespace Mi
open PySem L2 PyProof.Rows PySem.Spec HT
/-! ### d.pop(k) -/
def dropQ (qs : List Qd) (ns : List Int) : List Qd := qs.filter fun q => decide (q.1 ≠ ns)
def dropM (m : Mp) (ns : List Int) : Mp := m.filter fun e => decide (e.1 ≠ ns)
section
variable {X : Cx} {W : WX} {K : PySem.W.Frag} {H H' H1 H2 : Hp} {φ φ' φ1 φ2 : Ph} {hp hp' hp1 hp2 : Hs} {v : V} {d : D} {vs : List V} {ds xs : List D} {σ : L2.St} {env env' : Env} {Q : VK} {qs : List Qd} {m : Mp} {ns : List Int} {ma mb : M D} {e : Expr} {es : List Expr} {pos q q2 pos2 : Pos} {mas : M (List D)}
theorem QM.drop : ∀ {qs : List Qd} {m : Mp}, QM K H φ hp qs m → QM K H φ hp (dropQ qs ns) (dropM m ns)
  | [], [], _ => .nil
  | [], _ :: _, r => (by cases r)
  | _ :: _, [], r => (by cases r)
  | q :: qs, e :: m, r => by
    cases r with | cons h r =>
    have ih := QM.drop r
    unfold dropQ dropM at ih ⊢
    rw [List.filter_cons, List.filter_cons, ← h.1]
    by_cases z : q.1 ≠ ns
    · rw [if_pos (decide_eq_true z), if_pos (decide_eq_true z)]
      exact .cons h ih
    · rw [if_neg (by simpa using z), if_neg (by simpa using z)]
      exact ih
end
/-! ### {k: v for ..}, the keys tuples of ints -/
end Mi
-- MirGo
set_option Elab.async false
set_option linter.all false
set_option maxRecDepth 100000
set_option maxHeartbeats 4000000
namespace Mi
open PySem L2 PyProof.Rows PySem.Spec HT
section
variable {X : Cx} {W : WX} {K : PySem.W.Frag} {H H' H1 H2 : Hp} {φ φ' φ1 φ2 : Ph} {hp hp' hp1 hp2 : Hs} {v : V} {d : D} {vs : List V} {ds xs : List D} {σ : L2.St} {env env' : Env} {Q : VK} {qs : List Qd} {m : Mp} {ns : List Int} {a A : Addr} {o : Obj} {n : Nat}
/-! ### {k: v for ..} in the mirror -/
theorem QM.sq : ∀ {qs : List Qd} {m : Mp}, QM K H φ hp qs m → ∀ q ∈ qs, SqT K H q.2.1 (q.1.map V.int)
  | [], _, .nil => fun q h => by cases h
  | q :: qs, _, .cons h t => fun q' hq => by
    rcases List.mem_cons.mp hq with rfl | hq
    · exact h.2.1
    · exact QM.sq t q' hq
/-! ### sorted(set(xs)), xs a list of tuples of ints -/
variable {e : Expr} {es : List Expr} {pos q q2 pos2 : Pos} {mas : M (List D)}
end
section
variable {P : Program} {w : World} {K : PySem.W.Frag} {mg : Str → Option Value} {base : Heap} {X : Cx} {W : WX} {mas : M (List D)}
/-! ### defs with defaults -/
/-- a def by its name, called with the first values only: the last ones, ds, are its defaults -/
def CalD (P : Program) (w : World) (K : PySem.W.Frag) (mg : Str → Option Value) (base : Heap) (x : Str) (k n : Nat) (ds : List D) (g : Fn) : Prop :=
  ∃ f fd ps us vs, FnG P w K mg base (L2.CX P w) k f fd ps (spOf K mg n g) ∧ mg x = some (.ref f) ∧ PySem.W.keepIn K (.ref f) = true ∧ Binds K fd ps us ∧ Vals vs us ∧ ∀ H φ hp, Reps K H φ hp vs ds
theorem CalD.mono {x : Str} {j k n : Nat} {g : Fn} {ds : List D} (c : CalD P w K mg base x j n ds g) (h : j ≤ k) : CalD P w K mg base x k n ds g := by
  obtain ⟨f, fd, ps, us, vs, a, b⟩ := c
  exact ⟨f, fd, ps, us, vs, a.mono h, b⟩
end
end Mi
-- MirGp
set_option Elab.async false
set_option linter.all false
set_option maxRecDepth 100000
set_option maxHeartbeats 4000000
namespace Mi
open PySem L2 PyProof.Rows PySem.Spec HT
section
variable {X : Cx} {W : WX} {K : PySem.W.Frag} {H H' H1 H2 : Hp} {φ φ' φ1 φ2 : Ph} {hp hp' hp1 hp2 : Hs} {v : V} {d : D} {vs : List V} {ds xs : List D} {σ : L2.St} {env env' : Env} {Q : VK} {qs : List Qd} {m : Mp} {ns : List Int} {a A : Addr} {o : Obj} {n : Nat}
variable {e : Expr} {es : List Expr} {pos q q2 pos2 : Pos} {mas : M (List D)}
/-! ### list(d), d a dict with tuple keys -/
/-! ### dict(pairs), the keys tuples of ints -/
theorem QM.foldl : ∀ {L qs : List Qd} {m0 m : Mp}, QM K H φ hp L m0 → QM K H φ hp qs m → QM K H φ hp (L.foldl (fun qs q => putQ qs q.1 q.2.1 q.2.2.1 q.2.2.2) qs) (m0.foldl (fun m e => putM m e.1 e.2) m)
  | [], qs, [], m, _, h => h
  | [], _, _ :: _, _, r, _ => by cases r
  | _ :: _, _, [], _, r, _ => by cases r
  | q :: L, qs, e :: m0, m, r, h => by
    cases r with | cons h1 r =>
    obtain ⟨h1, h2, h3, h4⟩ := h1
    show QM K H φ hp (L.foldl (fun qs q => putQ qs q.1 q.2.1 q.2.2.1 q.2.2.2) (putQ qs q.1 q.2.1 q.2.2.1 q.2.2.2)) (m0.foldl (fun m e => putM m e.1 e.2) (putM m e.1 e.2))
    refine QM.foldl (L := L) (m0 := m0) r ?_
    rw [← h1] at h3 ⊢
    exact h.put h2 h3 h4
end
end Mi
-- MirDk
set_option Elab.async false
set_option linter.all false
set_option maxRecDepth 100000
set_option maxHeartbeats 4000000
namespace Mi
open PySem L2 PyProof.Rows PySem.Spec HT
section
variable {X : Cx} {W : WX} {K : PySem.W.Frag} {H H' H1 H2 : Hp} {φ φ' φ1 φ2 : Ph} {hp hp' hp1 hp2 : Hs} {v : V} {d : D} {vs : List V} {ds xs : List D} {p : Addr} {σ : L2.St} {env env' : Env} {Q : VK} {pins : List (Addr × Obj)} {ma mb mc : M D} {a b c : Expr} {pos pos' : Pos} {ks : List Key} {k : Key} {kvs : List (Key × V)}
/-! ### dicts whose keys are ints or texts: boxes `.dic ks xs` -/
def keyK (hp : Hs) (d : D) : Option Key := match look hp d with
  | .int i => some (.inl i)
  | .str i => some (.inr i)
  | _ => none
theorem keyK_ok (s : SR K H φ hp) (r : Rep K H φ hp v d) (e : keyK hp d = some k) : v = kV k := by
  unfold keyK at e
  split at e
  · rename_i i e1
    cases e
    exact rep_int s r e1
  · rename_i i e1
    cases e
    exact rep_str s r e1
  · cases e
def dicR (hp : Hs) (d : D) : Option (List Key × List D) := match look hp d with
  | .dic ks xs => some (ks, xs)
  | _ => none
theorem dicR_ok {m : List Key × List D} (s : SR K H φ hp) (r : Rep K H φ hp v d) (e : dicR hp d = some m) : ∃ a kvs, v = .ref a ∧ H a = some (.dK kvs) ∧ kvs.map (·.1) = m.1 ∧ Reps K H φ hp (kvs.map (·.2)) m.2 := by
  unfold dicR at e
  split at e
  · rename_i ks xs e1
    cases e
    exact rep_dic s r e1
  · cases e
/-- what stands at k -/
def getK : List Key → List D → Key → Option D
  | k0 :: ks, x :: xs, k => if k0 = k then some x else getK ks xs k
  | _, _, _ => none
theorem getK_val : ∀ {kvs : List (Key × V)} {xs : List D}, Reps K H φ hp (kvs.map (·.2)) xs → match getK (kvs.map (·.1)) xs k with
    | some d => ∃ v, valV kvs k = some v ∧ Rep K H φ hp v d
    | none => valV kvs k = none
  | [], _, r => by
    cases r
    exact rfl
  | p :: kvs, _, r => by
    cases r with
    | cons r1 r2 =>
      show match getK (p.1 :: kvs.map (·.1)) (_ :: _) k with
        | some d => ∃ v, valV (p :: kvs) k = some v ∧ Rep K H φ hp v d
        | none => valV (p :: kvs) k = none
      unfold getK
      by_cases e : p.1 = k
      · rw [if_pos e]
        exact ⟨p.2, valV_pos e, r1⟩
      · rw [if_neg e, valV_neg e]
        exact getK_val r2
/-! ### d[k] -/
def gKG (hp : Hs) (x y : D) : Option D := match dicR hp x, keyK hp y with
  | some m, some k => getK m.1 m.2 k
  | _, _ => none
theorem te_kG {to ti : TE} (ho : TEok X W to ma) (hi : TEok X W ti mb) : TEok X W (tDGet to ti) (mOp gKG ma mb) := fun σ H φ env hp o hp' s l h Q F => by
  refine te_stepG ho s l h F.exc fun x hp1 H1 φ1 v h1 s1 l1 r1 y1 => ?_
  refine te_stepG hi s1 l1 h1 (F.on y1).exc fun x2 hp2 H2 φ2 v2 h2 s2 l2 r2 y2 => ?_
  obtain ⟨d, e, rfl, rfl⟩ := lft_ok h2
  unfold gKG at e
  split at e
  · rename_i m k e1 e2
    obtain ⟨a, kvs, rfl, e3, e4, e5⟩ := dicR_ok s2 (r1.mono s1 y2) e1
    obtain rfl := keyK_ok s2 r2 e2
    have g := getK_val (k := k) e5
    rw [e4, e] at g
    obtain ⟨v, g1, g2⟩ := g
    exact ⟨a, v, rfl, .inl ⟨kvs, k, .inl e3, rfl, g1.symm⟩, F H2 φ2 (y1.trans y2) s2 _ g2⟩
  · cases e
theorem de_kG (hu : X.A.units + 1 < cLine) (ho : DE X W a ma) (hi : DE X W b mb) (hs : NoSl b) : DE X W (.Subscript a b pos) (mOp gKG ma mb) := by
  obtain ⟨ta, pa, ka⟩ := ho
  obtain ⟨tb, pb, kb⟩ := hi
  exact ⟨_, pe_dget hu pa pb hs, te_kG ka kb⟩
/-! ### k in d -/
/-! ### d[k] = v -/
def putKD (m : List (Key × D)) (k : Key) (d : D) : List (Key × D) := if (m.any fun e => decide (e.1 = k)) = true then m.map (fun e => if e.1 = k then (e.1, d) else e) else m ++ [(k, d)]
def dicOb (m : List (Key × D)) : Ob := .dic (m.map (·.1)) (m.map (·.2))
inductive Kvs (K : PySem.W.Frag) (H : Hp) (φ : Ph) (hp : Hs) : List (Key × V) → List (Key × D) → Prop
  | nil : Kvs K H φ hp [] []
  | cons {k : Key} {v : V} {d : D} {kvs m} (r : Rep K H φ hp v d) (t : Kvs K H φ hp kvs m) : Kvs K H φ hp ((k, v) :: kvs) ((k, d) :: m)
theorem Kvs.of : ∀ {kvs : List (Key × V)} {xs : List D}, Reps K H φ hp (kvs.map (·.2)) xs → Kvs K H φ hp kvs ((kvs.map (·.1)).zip xs)
  | [], _, r => by cases r; exact .nil
  | (k, v) :: kvs, _, r => by
    cases r with
    | cons r1 r2 => exact .cons r1 (Kvs.of r2)
theorem Kvs.keys {m : List (Key × D)} (r : Kvs K H φ hp kvs m) : kvs.map (·.1) = m.map (·.1) := by
  induction r with
  | nil => rfl
  | cons _ _ ih => rw [List.map_cons, List.map_cons, ih]
theorem Kvs.reps {m : List (Key × D)} (r : Kvs K H φ hp kvs m) : Reps K H φ hp (kvs.map (·.2)) (m.map (·.2)) := by
  induction r with
  | nil => exact .nil
  | cons r _ ih => exact .cons r ih
theorem Kvs.len {m : List (Key × D)} (r : Kvs K H φ hp kvs m) : kvs.length = m.length := by
  have := congrArg List.length r.keys
  simpa using this
theorem Kvs.any {m : List (Key × D)} (r : Kvs K H φ hp kvs m) : (kvs.any fun kv => decide (kv.1 = k)) = m.any fun e => decide (e.1 = k) := by
  induction r with
  | nil => rfl
  | cons _ _ ih => rw [List.any_cons, List.any_cons, ih]
theorem Kvs.put {m : List (Key × D)} (r : Kvs K H φ hp kvs m) (rv : Rep K H φ hp v d) : Kvs K H φ hp (putK kvs k v) (putKD m k d) := by
  unfold putK putKD
  rw [r.any]
  by_cases h : (m.any fun e => decide (e.1 = k)) = true
  · rw [if_pos h, if_pos h]
    clear h
    induction r with
    | nil => exact .nil
    | @cons k0 v0 d0 kvs m r0 t ih =>
      rw [List.map_cons, List.map_cons]
      by_cases e : k0 = k
      · simp only [e, if_true]
        exact .cons rv ih
      · simp only [e, if_false]
        exact .cons r0 ih
  · rw [if_neg h, if_neg h]
    clear h
    induction r with
    | nil => exact .cons rv .nil
    | cons r0 t ih => exact .cons r0 ih
theorem Kvs.mono {m : List (Key × D)} (r : Kvs K H φ hp kvs m) (s : SR K H φ hp) (x : Ext H φ hp H' φ' hp') : Kvs K H' φ' hp' kvs m := by
  induction r with
  | nil => exact .nil
  | cons r _ ih => exact .cons (r.mono s x) ih
theorem Kvs.ob {m : List (Key × D)} {a : Addr} (r : Kvs K H φ hp kvs m) (h : H a = some (.dK kvs)) : ObRep K H φ hp a (dicOb m) := by
  have := ObRep.dic (K := K) (φ := φ) (hp := hp) (xs := m.map (·.2)) h r.reps
  rwa [r.keys] at this
def rKs : TSet := fun x y v H Q => ∃ a H', x = .ref a ∧ DPut H a y v H' ∧ Q H'
theorem set_dK (hu : X.A.units + 1 < cLine) : PSet X rKs := by
  intro pins s σ H x y v xv yv u Q I rx ry rv h
  obtain ⟨a, H', rfl, g, q⟩ := h
  obtain rfl : xv = Value.ref a := rx
  exact d_setItem hu I g ry rv fun s' I' => ⟨H', I', q⟩
/-- a box with such a dict -/
def dicM (hp : Hs) (d : D) : Option (Nat × List (Key × D)) := match d with
  | .loc n => match hp[n]? with
    | some (some (.dic ks xs)) => some (n, ks.zip xs)
    | _ => none
  | _ => none
def gKSt (o i : M D) : MG := fun d env hp => match o env hp with
  | some (.ok x, hp1) => match i env hp1 with
    | some (.ok y, hp2) => match dicM hp2 x, keyK hp2 y with
      | some (n, m), some k => if m.length ≤ 1000000 then some (env, hp2.set n (some (dicOb (putKD m k d)))) else none
      | _, _ => none
    | _ => none
  | _ => none
theorem dicM_ok {n : Nat} {m : List (Key × D)} (s : SR K H φ hp) (r : Rep K H φ hp v d) (e : dicM hp d = some (n, m)) : v = .ref (φ n) ∧ ∃ kvs ob, (hp[n]? = some (some ob) ∧ isLk ob = false) ∧ H (φ n) = some (.dK kvs) ∧ Kvs K H φ hp kvs m := by
  unfold dicM at e
  split at e
  · rename_i n'
    split at e
    · rename_i ks xs e1
      cases e
      obtain rfl := rep_locV r
      refine ⟨rfl, ?_⟩
      cases s.obs _ _ e1 with
      | dic h r => exact ⟨_, _, ⟨e1, rfl⟩, h, Kvs.of r⟩
    · cases e
  · cases e
theorem dg_kst {o i : Expr} {fp : List Nat} (hu : X.A.units + 1 < cLine) (ho : DE X W o ma) (hi : DE X W i mb)
    (ha : ∀ v, assign (.Subscript o i pos) X.env v = (do
      let ov ← holding [v] (eval o X.env)
      let iv ← holding [v, ov] (eval i X.env)
      standAt pos
      holding [v, ov, iv] (setItem ov iv v)
      release [v, ov, iv] []) := by intro _; rfl) : DG X fp (.Subscript o i pos) (gKSt ma mb) := by
  obtain ⟨_, p, k⟩ := ho
  obtain ⟨_, q, j⟩ := hi
  refine ⟨_, pg_sub p q (set_dK hu) ha, fun v d σ H φ env hp env' hp' s l r h Q F => ?_⟩
  unfold gKSt at h
  split at h
  · rename_i x hp1 e1
    refine k σ H φ env hp _ _ s l e1 _ fun H1 φ1 y1 s1 w r1 => ?_
    split at h
    · rename_i z hp2 e2
      refine j σ H1 φ1 env hp1 _ _ s1 (l.mono s y1) e2 _ fun H2 φ2 y2 s2 w2 r2 => ?_
      split at h
      · rename_i n m kk e3 e4
        split at h
        · rename_i hm
          cases h
          obtain ⟨rfl, kvs, ob, ⟨hob, hobk⟩, hk, rm⟩ := dicM_ok s2 (r1.mono s1 y2) e3
          obtain rfl := keyK_ok s2 r2 e4
          have rv := r.mono s (y1.trans y2)
          have rp := rm.put (k := kk) rv
          have x3 : Ext H2 φ2 hp2 (upd H2 (φ2 n) (.dK (putK kvs kk v))) φ2 (hp2.set n (some (dicOb (putKD m kk d)))) := Ext.put s2 hob hobk
          refine ⟨_, _, rfl, .inl ⟨kvs, kk, hk, rfl, ?_, rfl⟩, ?_⟩
          · have := rm.len
            have : sizeLine = 2 ^ 24 := rfl
            omega
          · exact F _ _ _ ((y1.trans y2).trans x3) (s2.put hob ((rp.mono s2 x3).ob upd_same) hobk) (l.mono s ((y1.trans y2).trans x3)) (fun _ _ => rfl) rfl
        · cases h
      · cases h
    · cases h
  · cases h
/-! ### {} -/
/-! ### d.pop(k), d.get(k) -/
def dropKD (m : List (Key × D)) (k : Key) : List (Key × D) := m.filter fun e => decide (e.1 ≠ k)
def getKD (m : List (Key × D)) (k : Key) : Option D := (m.find? fun e => decide (e.1 = k)).map (·.2)
theorem Kvs.get {m : List (Key × D)} (r : Kvs K H φ hp kvs m) : match getKD m k with
    | some d => ∃ v, valV kvs k = some v ∧ Rep K H φ hp v d
    | none => valV kvs k = none := by
  induction r with
  | nil => exact rfl
  | @cons k0 v0 d0 kvs m r t ih =>
    unfold getKD at ih ⊢
    rw [List.find?_cons]
    by_cases e : k0 = k
    · simp only [e, decide_true]
      exact ⟨v0, valV_pos (p := (k, v0)) rfl, r⟩
    · simp only [e, decide_false]
      rw [valV_neg (p := (k0, v0)) e]
      exact ih
theorem Kvs.drop {m : List (Key × D)} (r : Kvs K H φ hp kvs m) : Kvs K H φ hp (dropK kvs k) (dropKD m k) := by
  unfold dropK dropKD
  induction r with
  | nil => exact .nil
  | @cons k0 v0 d0 kvs m r t ih =>
    rw [List.filter_cons, List.filter_cons]
    by_cases e : k0 = k
    · simp only [e, ne_eq, not_true_eq_false, decide_false]
      exact ih
    · simp only [e, ne_eq, not_false_eq_true, decide_true, if_true]
      exact .cons r ih
/-! ### dict(d): a copy -/
end
end Mi
-- MirKx
set_option Elab.async false
set_option linter.all false
set_option maxRecDepth 100000
set_option maxHeartbeats 4000000
namespace Mi
open PySem L2 PyProof.Rows PySem.Spec HT
open Sem (wp)
/-! ### max(sorted(d), key=lambda a: d[a]) -/
section
variable {prog : Program} {w : World} {A : Around} {E : Value → Shared → Prop} {s : Shared} {Q : Value → Shared → Prop}
/-- the lambda is called: a new frame, else nothing changes -/
theorem key_turn {qual dn an : Str} {params : Arguments} {p1 p2 p3 : Pos} {scope : Scope} {cl : List (Str × Addr)} {pm ctv v : Value} {f c' c d : Addr} {z : Int}
    (ho : s.heap.get? f = some (PySem.W.kla_obj "<lambda>" qual params (.Subscript (.Name dn p1) (.Name an p2) p3) scope cl pm c' ctv))
    (hcd : s.heap.CodeRec (.ref c') qual) (nol : s.heap.NoLimit) (hroom : A.depth < recursionLimit)
    (hbind : bindArgs (PySem.W.kla_fn "<lambda>" qual params (.Subscript (.Name dn p1) (.Name an p2) p3) scope cl pm (.ref c') ctv) ⟨[v], []⟩ = pure [(an, v)])
    (hk : scope.kind = .function) (hco : scope.isCoroutine = false) (hgen : scope.isGenerator = false) (han : scope.names.lookup an = some .local) (hdn : scope.names.lookup dn = some .free) (hcell0 : ∀ y ∈ scope.names, y.2 ≠ .cell)
    (hcl : cl.lookup dn = some c) (hc : s.heap.IsCell c (some (.ref d))) (hT : ∀ s5 : Shared, (∀ b o, s.heap.get? b = some o → s5.heap.get? b = some o) → s5.TypeIs (.ref d) "dict")
    (hget : ∀ (s5 : Shared) (A5 : Around) (Q5 E5 : Value → Shared → Prop), (∀ b o, s.heap.get? b = some o → s5.heap.get? b = some o) → (∀ tk t', Q5 (.int z t') { s5 with toks := tk }) → wpAny (model prog w) A5 (getItem (.ref d) v) Q5 E5 s5)
    (h : ∀ h' tk t', (∀ b o, s.heap.get? b = some o → h'.get? b = some o) → Q (.int z t') { s with heap := h', toks := tk })
    (e1 : (dn == ("__debug__" : Str)) = false := by decide) (e2 : (an == ("__debug__" : Str)) = false := by decide) (e3 : (dn == ("__classdict__" : Str)) = false := by decide) :
    wpAny (model prog w) A (call (.ref f) [v]) Q E s := by
  refine wpAny_call ?_
  refine PySem.W.kla_callFunE hroom ho rfl hco hgen rfl hcd ?_
  rw [hbind]
  refine wpAny_pure (wpAny_newFunctionEnv hcell0 (fun y hy => by rw [List.mem_singleton] at hy; subst hy; exact han) (fun h₁ hns hsb => ⟨nol.fresh _ hsb, ?_⟩) hk)
  show codeAny _ _ (.expr _ (PySem.W.envX qual scope s.heap.objs.size f (.ref c') cl)) _ _
  have kp : ∀ b o, s.heap.get? b = some o → h₁.get? b = some o := fun b o e => hsb.extBut b o (Nat.ne_of_lt (Heap.lt_size e)) (Heap.get?_push_of_some _ e)
  have hc1 : h₁.IsCell c (some (.ref d)) := by
    obtain ⟨o, ho, hd⟩ := hc
    exact ⟨o, kp _ _ ho, hd⟩
  refine PySem.W.kla_codeExpr ?_
  refine subD_of PySem.F.slot_dict_getitem.lookup (fun _ _ => rfl) ?_
  refine wpAny_Name (wpAny_loadName_free (c := c) hk hdn hcl hc1 ?_ e3) e1
  refine wpAny_Name (wpAny_loadName_local hk han hns (v := v) ?_ ?_) e2
  · simp
  · refine ⟨hT _ kp, hget _ _ _ _ kp fun tk t' => ?_⟩
    exact h h₁ tk t' kp
end
section
variable {X : Cx} {pins : List (Addr × Obj)} {σ : L2.St} {H : Hp} {s : Shared} {Q : VK}
def vzI (kvs : List (Key × V)) (n : Int) : Int := match valV kvs (.inl n) with
  | some (.int z) => z
  | _ => 0
def bestI (kvs : List (Key × V)) (ns : List Int) : Nat → Nat → Bool := fun i j => decide (vzI kvs (ns.getD i 0) > vzI kvs (ns.getD j 0))
theorem max_key_run {dn an : Str} {params : Arguments} {p1 p2 p3 : Pos} {scope : Scope} {pm ctv : Value} {f c' c d l : Addr} {i : Nat} {ns : List Int} {kvs : List (Key × V)} (I : Inv X pins σ H s) (calm : X.calm = true) (room : X.A.in1.depth < recursionLimit)
    (ho : s.heap.get? f = some (PySem.W.kla_obj "<lambda>" (X.env.qual ++ "<lambda>") params (.Subscript (.Name dn p1) (.Name an p2) p3) scope (cloFrom X.env.cells scope.names []) pm c' ctv))
    (hco : H c' = some (LamX.CodeO c' (X.env.qual ++ "<lambda>")))
    (hbind : ∀ v, bindArgs (PySem.W.kla_fn "<lambda>" (X.env.qual ++ "<lambda>") params (.Subscript (.Name dn p1) (.Name an p2) p3) scope (cloFrom X.env.cells scope.names []) pm (.ref c') ctv) ⟨[v], []⟩ = pure [(an, v)])
    (hk : scope.kind = .function) (hcor : scope.isCoroutine = false) (hgen : scope.isGenerator = false) (han : scope.names.lookup an = some .local) (hdn : scope.names.lookup dn = some .free) (hcell0 : ∀ y ∈ scope.names, y.2 ≠ .cell)
    (hN : X.N[i]? = some dn) (hcl : X.env.scope.names.lookup dn = some .cell) (hσ : σ[i]? = some (some (.ref d))) (hd : H d = some (.dK kvs)) (hl : SqL X.K H l (ns.map V.int)) (h0 : 0 < ns.length) (hv : ∀ n ∈ ns, ∃ z, valV kvs (.inl n) = some (.int z))
    (q : Q (.int (ns.getD (argBest (bestI kvs ns) (ns.length - 1)) 0)) H)
    (e1 : (dn == ("__debug__" : Str)) = false := by decide) (e2 : (an == ("__debug__" : Str)) = false := by decide) (e3 : (dn == ("__classdict__" : Str)) = false := by decide) :
    wpAny (model X.prog X.w) X.A (call (.builtin "max") [.ref l] [(Str.ofString "key", .ref f)]) (EP X pins σ Q) X.xe s := by
  obtain ⟨its, rv, ht, hz⟩ := I.list hl
  have hi := intsAre_of rv
  have hlen : its.length = ns.length := by rw [← rv.length, List.length_map]
  -- the cell
  obtain ⟨m, hns, hlk⟩ := I.loc
  obtain ⟨u, ru, lk⟩ := hlk i dn _ hN hσ (.inr (.inl hcl))
  obtain rfl : u = Value.ref d := ru
  obtain ⟨c, hc1, hc2⟩ : ∃ c, X.env.cells.lookup dn = some c ∧ s.heap.IsCell c (some (.ref d)) := by
    rcases lk with ⟨hk2, _⟩ | ⟨_, c, h1, h2⟩
    · exact absurd (hk2.symm.trans hcl) (by simp)
    · exact ⟨c, h1, h2⟩
  have hcl2 : (cloFrom X.env.cells scope.names []).lookup dn = some c := by
    have hy : (dn, NameKind.free) ∈ scope.names := PySem.mem_of_lookup hdn
    obtain ⟨c0, h0⟩ := mem_lookup (cloFrom_has (cells := X.env.cells) (acc := []) hy)
    rcases cloFrom_mem (PySem.mem_of_lookup h0) with hm | ⟨_, h2⟩
    · cases hm
    · have e2 : c0 = c := by rw [h2, hc1] <;> rfl
      rw [h0, e2]
  obtain ⟨⟨oc, fs, tt, hoc, hdc, hvc⟩, _, _⟩ := I.hok c' _ hco
  refine call_max_walkK (iter_K (k := .l) (items := its.toArray) ht.isList fun s₃ e st hfp hlI => ?_)
  subst e
  have hh : X.A.in1.handled = none := I.ok.hd calm
  have hsz : its.toArray.size = ns.length := by rw [List.size_toArray, hlen]
  have W0 := walksK (prog := X.prog) (w := X.w) (k := .l) (A := X.A.in1) hh hlI its.toArray
  have at_ : ∀ {j v}, its.toArray[j]? = some v → ∃ t, v = .int (ns.getD j 0) t ∧ j < ns.length := fun {j v} hj => by
    rw [List.getElem?_toArray] at hj
    have jl := (List.getElem?_eq_some_iff.mp hj).1
    rw [hlen] at jl
    have e : (ns.map V.int)[j]? = some (.int (ns.getD j 0)) := by
      rw [List.getElem?_map, List.getD_eq_getElem?_getD, List.getElem?_eq_getElem jl]; rfl
    obtain ⟨u, h1, h2⟩ := rv.get e
    rw [hj] at h1
    cases h1
    obtain ⟨t, rfl⟩ := h2
    exact ⟨t, rfl, jl⟩
  refine ⟨_, _, _, _, _, _, _, (fun s' => s'.gens = s.gens ∧ s'.drawn = s.drawn ∧ s'.os = s.os ∧ ∀ b o, s.heap.get? b = some o → s'.heap.get? b = some o), (fun j k _ => ∃ t, k = .int (vzI kvs (ns.getD j 0)) t), bestI kvs ns, rfl, W0.toS, st, hfp, by rw [hsz]; exact h0, ?_, ⟨rfl, rfl, rfl, fun b o e => Heap.get?_push_of_some _ e⟩, ?_⟩
  · refine ⟨fun s1 s2 hJ hm => ?_, fun j k s1 s2 hV _ => hV, fun j v s1 o Q1 E1 hj hP hJ hst hS hq => ?_, fun j1 j2 k1 k2 s1 Q1 E1 hJ hV1 hV2 hq => ?_⟩
    · obtain ⟨j1, j2, j3, j4⟩ := hJ
      refine ⟨hm.gens.trans j1, hm.drawn.trans j2, hm.os.trans j3, fun b o e => hm.heap b o (fun hb => ?_) (j4 b o e)⟩
      have hlt := Heap.lt_size e
      have hz2 : (s.heap.push (Sk.ob .l l)).objs.size = s.heap.objs.size + 1 := by rw [Heap.size_push]
      simp only [List.mem_cons, List.not_mem_nil, or_false] at hb
      rcases hb with hb | hb
      · rw [hb] at hlt
        have hlt : (s.heap.push (Sk.ob .l l)).objs.size < s.heap.objs.size := hlt
        omega
      · rw [hb] at hlt
        exact absurd hlt (Nat.lt_irrefl _)
    · obtain ⟨j1, j2, j3, j4⟩ := hJ
      obtain ⟨t, rfl, hjl⟩ := at_ hP
      obtain ⟨z, hz⟩ := hv (ns.getD j 0) (by rw [List.getD_eq_getElem?_getD, List.getElem?_eq_getElem hjl]; exact List.getElem_mem hjl)
      have vz : vzI kvs (ns.getD j 0) = z := by unfold vzI; rw [hz]
      have dict : ∀ s5 : Shared, (∀ b o, s1.heap.get? b = some o → s5.heap.get? b = some o) → ∃ vs w', s5.heap.DictOf (mixKind X.prog X.w) d vs ∧ valueAt vs (.inl (ns.getD j 0)) = some w' ∧ ∃ t', w' = .int z t' := fun s5 k5 => by
        have I5 : Inv X pins σ H { s with heap := s5.heap, toks := s5.toks } := I.kept (t' := s5.toks) fun b o e => k5 b o (j4 b o e)
        obtain ⟨z2, hd2, vs, rel, dd⟩ := dk_rd I5.hok (.inl hd)
        obtain ⟨w', hw, rw'⟩ := RelO.some_of (v := V.int z) (o := valueAt vs (.inl (ns.getD j 0))) (by rw [← hz]; exact rel.val (.inl (ns.getD j 0)))
        exact ⟨vs, w', dd, hw, rw'⟩
      refine key_turn (c := c) (d := d) (z := z) (j4 _ _ ho) ⟨c', oc, fs, tt, rfl, j4 _ _ hoc, hdc, hvc⟩ (I.nolimit.keeps j4) room (hbind _) hk hcor hgen han hdn hcell0 hcl2 (by
        obtain ⟨o, h1, h2⟩ := hc2
        exact ⟨o, j4 _ _ h1, h2⟩) (fun s5 k5 => ?_) (fun s5 A5 Q5 E5 k5 hq5 => ?_) (fun h' tk t' k' => ?_) e1 e2 e3
      · obtain ⟨vs, w', dd, _⟩ := dict s5 k5
        exact dd.typeIs
      · obtain ⟨vs, w', dd, hw, t', rfl⟩ := dict s5 k5
        exact wpAny_getItem_of (kV_is (k := .inl (ns.getD j 0)) ⟨t, rfl⟩) dd.mapOf hw (hq5 _ t')
      · refine hq _ _ ⟨j1, j2, j3, fun b o e => k' b o (j4 b o e)⟩ ?_ (k' _ _ hS) ⟨t', by rw [vz]⟩ fun _ _ hV => hV
        exact W0.frame (j + 1) s1.heap h' hst fun b _ o e => k' b o e
    · exact CmpOf.ints_gt (P := fun i v => ∃ t, v = .int (vzI kvs (ns.getD i 0)) t) (fun i => vzI kvs (ns.getD i 0)) (fun i v h => h) j1 j2 k1 k2 s1 Q1 E1 hV1 hV2 hq
  · rintro v s1 hP ⟨j1, j2, j3, j4⟩
    rw [hsz] at hP
    obtain ⟨t, rfl, _⟩ := at_ hP
    have J : Inv X pins σ H { s with heap := s1.heap, toks := s1.toks } := I.kept (t' := s1.toks) j4
    have es : s1 = { s with heap := s1.heap, toks := s1.toks } := by
      cases s1; simp at j1 j2 j3; subst j1 j2 j3; rfl
    rw [es]
    exact ⟨.int _, H, J, ⟨t, rfl⟩, q⟩
end
section
variable {X : Cx} {W : WX} {K : PySem.W.Frag} {H H' H1 H2 : Hp} {φ φ' φ1 φ2 : Ph} {hp hp' hp1 hp2 : Hs} {v : V} {d : D} {vs : List V} {ds xs : List D} {p : Addr} {σ : L2.St} {env env' : Env} {Q : VK} {kvs : List (Key × V)} {ks : List Key}
def zD (ks : List Key) (xs : List D) (n : Int) : Int := match getK ks xs (.inl n) with
  | some (.int z) => z
  | _ => 0
def bestD (ks : List Key) (xs : List D) (ns : List Int) : Nat → Nat → Bool := fun i j => decide (zD ks xs (ns.getD i 0) > zD ks xs (ns.getD j 0))
theorem zD_eq (r : Reps K H φ hp (kvs.map (·.2)) xs) (n : Int) : vzI kvs n = zD (kvs.map (·.1)) xs n := by
  have g := getK_val (k := .inl n) r
  unfold vzI zD
  cases e : getK (kvs.map (·.1)) xs (.inl n) with
  | none => rw [e] at g; rw [show valV kvs (.inl n) = none from g]
  | some d =>
    rw [e] at g
    obtain ⟨v, g1, g2⟩ := g
    rw [g1]
    cases g2 <;> rfl
/-- max(.., key=lambda a: d[a]), d the slot i -/
noncomputable def mMaxK (i : Nat) (me : M D) : M D := fun env hp => match me env hp with
  | some (.ok (.lst ds), hp1) => match ints? ds, env[i]? with
    | some ns, some (some (.loc n)) => match hp1[n]? with
      | some (some (.dic ks xs)) => if 0 < ns.length ∧ (ns.all fun n => match getK ks xs (.inl n) with | some (.int _) => true | _ => false) = true then some (.ok (.int (ns.getD (argBest (bestD ks xs ns) (ns.length - 1)) 0)), hp1) else none
      | _ => none
    | _, _ => none
  | _ => none
theorem de_maxK {k i : Nat} {e : Expr} {me : M D} {dn an : Str} {args : Arguments} {p1 p2 p3 pq lpos kpos pos : Pos} {scope : Scope} {c P : Addr} (b : BodyX X W (k + 2)) (calm : X.calm = true) (he : DE X W e me) (TB : TbB X.K X.mg X.base)
    (hcode : X.env.code = .ref c) (hhd : PySem.W.codeHdIn X.K c P = true) (hm : (P, X.env.qual ++ "<lambda>") ∈ tabsOf X.K) (hu : ∀ r ∈ tabsOf X.K, r.1 = P → r.2 = X.env.qual ++ "<lambda>")
    (hfr : ∀ y ∈ scope.names, y.2 = .free → X.env.scope.names.lookup y.1 = some .cell ∨ X.env.scope.names.lookup y.1 = some .free) (hdef : defaultsOf args X.env = ([], []))
    (hbind : ∀ (q : Str) (cl : List (Str × Addr)) (pm cv ctv v : Value), bindArgs (PySem.W.kla_fn "<lambda>" q args (.Subscript (.Name dn p1) (.Name an p2) p3) scope cl pm cv ctv) ⟨[v], []⟩ = pure [(an, v)])
    (hk : scope.kind = .function) (hcor : scope.isCoroutine = false) (hgen : scope.isGenerator = false) (han : scope.names.lookup an = some .local) (hdn : scope.names.lookup dn = some .free) (hcell0 : ∀ y ∈ scope.names, y.2 ≠ .cell)
    (hN : X.N[i]? = some dn) (hcl : X.env.scope.names.lookup dn = some .cell)
    (hg : Gl X "max") (hmx : X.mg "max" = none)
    (e1 : (dn == ("__debug__" : Str)) = false := by decide) (e2 : (an == ("__debug__" : Str)) = false := by decide) (e3 : (dn == ("__classdict__" : Str)) = false := by decide)
    (hst : starEach [e] X.env = (false, eval e X.env) :: starEach [] X.env := by rfl) (he1 : backTo pos (starEach [e] X.env) = (false, eval e X.env) :: backTo pos (starEach [] X.env) := by rfl) (hpl1 : (backTo pos (starEach [e] X.env)).any (·.1) = false := by rfl) :
    DE X W (.Call (.Name "max" pq) [e] [⟨some (Str.ofString "key"), .Lambda args (.Subscript (.Name dn p1) (.Name an p2) p3) scope lpos, kpos⟩] pos) (mMaxK i me) := by
  obtain ⟨te, pe, ke⟩ := he
  refine ⟨tM X W (mMaxK i me), ⟨fun pins s σ H Q I hh => ?_⟩, fun σ H φ env hp o hp' s l h Q F => ⟨φ, env, hp, o, hp', s, l, h, F⟩⟩
  obtain ⟨φ, env, hp, o, hp', sr, sl, hm1, F⟩ := hh
  unfold mMaxK at hm1
  split at hm1
  · rename_i ds hp1 ea
    split at hm1
    · rename_i ns n eb ec
      split at hm1
      · rename_i ks xs ed
        split at hm1
        · rename_i hc
          cases hm1
          obtain rfl := ints_of eb
          have TB1 : LamX.TabB X.base X.mg c P := ⟨PySem.W.codeHd_of_K I.ok.mod.kin hhd, (TB _ hm).2, (TB _ hm).1⟩
          refine wpAny_Call_Name_kw (ld_blt I hg hmx bo_max ?_ (by decide) (by decide))
          refine PyProof.Rows.callWith_kw (he := he1) (hplain := hpl1) (thn ((pa_cons pe pa_nil hst).run pos pins s σ H (fun vs H1 => ∃ φ1 v, vs = [v] ∧ Ext H φ hp H1 φ1 hp' ∧ SR X.K H1 φ1 hp' ∧ Rep X.K H1 φ1 hp' v (.lst (ns.map .int))) I ?_) fun us s1 ⟨vs, H1, I1, r1, φ1, v, ev, y1, sr1, rv⟩ => ?_)
          · refine ke σ H φ env hp _ _ sr sl ea _ fun H1 φ1 y1 s1 => ?_
            dsimp only
            intro v r
            exact ⟨φ1, v, rfl, y1, s1, r⟩
          subst ev
          obtain ⟨u0, rfl, ru0⟩ := vals1 r1
          obtain ⟨a1, vs1, rfl, hl1, rl1⟩ := rep_lst sr1 rv rfl
          obtain rfl : u0 = Value.ref a1 := ru0
          have hT : LamX.TabS H1 P (X.env.qual ++ "<lambda>") := by
            obtain ⟨_, ps, h1, h2, h3⟩ := sr1.tb _ hm
            exact ⟨ps, h1, h2, fun q cv hc => let ⟨c, e, h, _⟩ := h3 q cv hc; ⟨c, e, h⟩⟩
          show wpAny _ _ (evalAll [(do let v ← eval (.Lambda args (.Subscript (.Name dn p1) (.Name an p2) p3) scope lpos) X.env; standAt pos; pure v)]) _ _ s1
          refine wpAny_evalAll_cons (wpAny_bind (lam_made I1 TB1 hcode hT hdef (fun y hy e => (hfr y hy e).elim (fun k => I1.ok.has _ (.inl k)) (fun k => I1.ok.has _ (.inr k))) fun f c' pm' ctv H2 s2 I2 gr hf hfn hfr hco hold => wpAny_bind (wpAny_standAt (wpAny_pure (wpAny_evalAll_nil ?_)))))
          obtain ⟨y2, sr2⟩ := grown_ok sr1 gr hm hu
          have rv2 := rv.mono sr1 y2
          obtain ⟨a2, vs2, e4, hl2, rl2⟩ := rep_lst sr2 rv2 rfl
          cases e4
          obtain rfl := rl2.ints
          obtain ⟨vd, hσ, rd⟩ := sl.2 i _ ec
          have rd2 := (rd.mono sr y1).mono sr1 y2
          obtain rfl := rep_locV rd2
          obtain ⟨kv2, hd2, ek, rx⟩ : ∃ kv2, H2 (φ1 n) = some (.dK kv2) ∧ kv2.map (·.1) = ks ∧ Reps X.K H2 φ1 hp' (kv2.map (·.2)) xs := by
            cases sr2.obs _ _ ed with
            | dic h r => exact ⟨_, h, rfl, r⟩
          subst ek
          have eb2 : bestI kv2 ns = bestD (kv2.map (·.1)) xs ns := by
            funext a b
            unfold bestI bestD
            rw [zD_eq rx, zD_eq rx]
          refine max_key_run (c := 0) (Q := Q) I2 calm b.room.depth hf hco (hbind _ _ _ _ _) hk hcor hgen han hdn hcell0 hN hcl hσ hd2 (SqL.of hl2) hc.1 (fun z hz => ?_) ?_ e1 e2 e3
          · have := List.all_eq_true.mp hc.2 z hz
            have g := getK_val (k := .inl z) rx
            split at this
            · rename_i w ew
              rw [ew] at g
              obtain ⟨v, g1, g2⟩ := g
              cases g2
              exact ⟨w, g1⟩
            · cases this
          · rw [eb2]
            exact F H2 φ1 (y1.trans y2) sr2 _ (.int _)
        · cases hm1
      · cases hm1
    · cases hm1
  · cases hm1
end
section
variable {X : Cx} {W : WX}
def maxSB (sc scope : Scope) (dn an : Str) : Bool :=
  decide (scope.kind = .function) && !scope.isCoroutine && !scope.isGenerator && decide (scope.names.lookup an = some .local) && decide (scope.names.lookup dn = some .free) && decide (sc.names.lookup dn = some .cell) &&
    scope.names.all fun y => !decide (y.2 = .cell) && (!decide (y.2 = .free) || decide (sc.names.lookup y.1 = some .cell) || decide (sc.names.lookup y.1 = some .free))
theorem de_maxKC {y : Str} {m i : Nat} {sc : Scope} {e : Expr} {me : M D} {dn an : Str} {args : Arguments} {p1 p2 p3 pq lpos kpos pos : Pos} {scope : Scope} (b : BodyX X W m) (he : DE X W e me) (TB : TbB X.K X.mg X.base) (C : LamM X.K y)
    (hcode : X.env.code = .ref (codeA X.K y)) (hmx : X.mg "max" = none) (hN : X.N[i]? = some dn) (hk : 2 ≤ m := by decide) (calm : X.calm = true := by rfl) (hq : X.env.qual ++ "<lambda>" = lamQ y := by rfl)
    (hsc : X.env.scope = sc := by rfl) (S : maxSB sc scope dn an = true := by decide +kernel) (hdef : defaultsOf args X.env = ([], []) := by rfl)
    (hbind : ∀ (q : Str) (cl : List (Str × Addr)) (pm cv ctv v : Value), bindArgs (PySem.W.kla_fn "<lambda>" q args (.Subscript (.Name dn p1) (.Name an p2) p3) scope cl pm cv ctv) ⟨[v], []⟩ = pure [(an, v)] := by exact fun _ _ _ _ _ _ => rfl)
    (hg : Gl X "max" := by rfl) (e1 : (dn == ("__debug__" : Str)) = false := by decide) (e2 : (an == ("__debug__" : Str)) = false := by decide) (e3 : (dn == ("__classdict__" : Str)) = false := by decide)
    (hst : starEach [e] X.env = (false, eval e X.env) :: starEach [] X.env := by rfl) (he1 : backTo pos (starEach [e] X.env) = (false, eval e X.env) :: backTo pos (starEach [] X.env) := by rfl) (hpl1 : (backTo pos (starEach [e] X.env)).any (·.1) = false := by rfl) :
    DE X W (.Call (.Name "max" pq) [e] [⟨some (Str.ofString "key"), .Lambda args (.Subscript (.Name dn p1) (.Name an p2) p3) scope lpos, kpos⟩] pos) (mMaxK i me) := by
  unfold maxSB at S
  simp only [Bool.and_eq_true, Bool.or_eq_true, Bool.not_eq_true', decide_eq_true_eq, decide_eq_false_iff_not, List.all_eq_true] at S
  obtain ⟨⟨⟨⟨⟨⟨h1, h2⟩, h3⟩, h4⟩, h5⟩, h6⟩, h7⟩ := S
  subst hsc
  exact de_maxK (k := 0) (b.dn hk) calm he TB hcode C.hd (by rw [hq]; exact C.mem) (by rw [hq]; exact C.one) (fun y hy e => by
    rcases (h7 y hy).2 with (z | z) | z
    · exact absurd e z
    · exact .inl z
    · exact .inr z) hdef hbind h1 h2 h3 h4 h5 (fun y hy => (h7 y hy).1) hN h6 hg hmx e1 e2 e3 hst he1 hpl1
end
/-! ### sorted(d), dict(pairs): the keys ints -/
section
variable {X : Cx} {W : WX} {K : PySem.W.Frag} {H H' H1 H2 : Hp} {φ φ' φ1 φ2 : Ph} {hp hp' hp1 hp2 : Hs} {v : V} {d : D} {vs : List V} {ds xs : List D} {p : Addr} {σ : L2.St} {env env' : Env} {Q : VK} {kvs : List (Key × V)} {ks : List Key} {e : Expr} {q pos : Pos} {mas : M (List D)}
def intK : List Key → Option (List Int)
  | [] => some []
  | .inl i :: ks => (intK ks).map (i :: ·)
  | .inr _ :: _ => none
theorem intK_of : ∀ {ks : List Key} {ns : List Int}, intK ks = some ns → ks = ns.map Sum.inl
  | [], ns, h => by cases h; rfl
  | .inl i :: ks, ns, h => by
    unfold intK at h
    obtain ⟨l, h1, rfl⟩ := Option.map_eq_some_iff.mp h
    rw [intK_of h1]; rfl
  | .inr _ :: _, ns, h => by cases h
theorem intK_map : ∀ ns : List Int, intK (ns.map Sum.inl) = some ns
  | [] => rfl
  | n :: ns => by
    show (intK (ns.map Sum.inl)).map (n :: ·) = _
    rw [intK_map ns]; rfl
def gSortK (hp : Hs) (ds : List D) : Option (List D) := match ds with
  | [d] => match dicR hp d with
    | some m => match intK m.1 with
      | some ns => if ns.length < 64 then some ((sortI ns).map .int) else none
      | none => none
    | none => none
  | _ => none
theorem dn_sortK (hc : X.calm = true) (hg : Gl X "sorted") (hm : X.mg "sorted" = none) (ha : DA X W [e] mas)
    (he : starEach [e] X.env = (false, eval e X.env) :: starEach [] X.env := by rfl) (hpl : (backTo pos (starEach [] X.env)).any (·.1) = false := by rfl) :
    DN X W (.Call (.Name "sorted" q) [e] [] pos) (mCBN gSortK mas) := by
  obtain ⟨t, p, k⟩ := ha
  refine ⟨_, pe_callB (call_sortedDI hc) hg hm bo_sorted p (by decide) (by decide) he hpl, fun σ H φ env hp o hp' s l h Q F => ?_⟩
  refine ta_stepG k s l h F.exc fun xs hp1 H1 φ1 vs h1 s1 l1 r1 y1 => ?_
  obtain ⟨x, e, rfl, rfl⟩ := lft_ok h1
  unfold gSortK at e
  split at e
  · have r2 := reps1 r1; clear r1; obtain ⟨v, rfl, r⟩ := r2
    split at e
    · rename_i m e1
      split at e
      · rename_i ns e2
        split at e <;> cases e
        rename_i hl
        obtain ⟨a, kvs, rfl, hk, e3, _⟩ := dicR_ok s1 r e1
        refine ⟨a, kvs, ns, rfl, .inl hk, by rw [e3]; exact intK_of e2, hl, fun ys p0 pm pw hn => ?_⟩
        have e9 : ys = sortI ns := sortI_is pm pw
        rw [e9]
        exact F H1 φ1 y1 s1 p0 _ hn (Reps.ofInts _)
      · cases e
    · cases e
  · cases e
def prK : D → Option (Key × D)
  | .tup [.int i, v] => some (.inl i, v)
  | _ => none
def prsK : List D → Option (List (Key × D))
  | [] => some []
  | d :: ds => match prK d, prsK ds with
    | some e, some m => some (e :: m)
    | _, _ => none
theorem prsK_ok : ∀ {vs : List V} {ds : List D} {m : List (Key × D)}, Reps K H φ hp vs ds → prsK ds = some m → ∃ (ps : List Addr) (kvs : List (Key × V)), vs = ps.map V.ref ∧ Paired (fun p kv => SqT K H p [kV kv.1, kv.2]) ps kvs ∧ Kvs K H φ hp kvs m
  | _, [], m, r, h => by cases h; cases r; exact ⟨[], [], rfl, .nil, .nil⟩
  | _, d :: ds, m, r, h => by
    cases r with
    | cons r1 r2 =>
      unfold prsK at h
      split at h <;> cases h
      rename_i e m e1 e2
      obtain ⟨ps, kvs, rfl, h2, h3⟩ := prsK_ok r2 e2
      unfold prK at e1
      split at e1 <;> cases e1
      rename_i i w
      cases r1 with
      | tup q rr =>
        rename_i a us
        cases rr with
        | cons ra rb =>
          cases rb with
          | cons rc rd =>
            cases rd
            cases ra
            rename_i y
            exact ⟨a :: ps, (.inl i, y) :: kvs, rfl, .cons (show SqT K H a [kV (.inl i), y] from q.sq) h2, .cons rc h3⟩
def mergeD (m more : List (Key × D)) : List (Key × D) := more.foldl (fun acc kv => putKD acc kv.1 kv.2) m
theorem Kvs.merge : ∀ {more : List (Key × V)} {mm : List (Key × D)} {kvs : List (Key × V)} {m : List (Key × D)}, Kvs K H φ hp more mm → Kvs K H φ hp kvs m → Kvs K H φ hp (mergeK kvs more) (mergeD m mm)
  | _, _, _, _, .nil, r => r
  | _, _, kvs, m, .cons (kvs := kvs2) (m := m2) (k := k) (v := v) (d := d) r1 r2, r => Kvs.merge (more := kvs2) (mm := m2) (kvs := putK kvs k v) (m := putKD m k d) r2 (r.put r1)
def mDictK (m : M D) : M D := fun env hp => match m env hp with
  | some (.ok x, hp1) => match look hp1 x with
    | .lst xs => match prsK xs with
      | some mm => some (.ok (.loc hp1.length), hp1 ++ [some (dicOb (mergeD [] mm))])
      | none => none
    | _ => none
  | r => r
theorem de_dictK {ma : M D} (hc : X.calm = true) (hg : Gl X "dict") (hm : X.mg "dict" = none) (ha : DE X W e ma)
    (he : starEach [e] X.env = (false, eval e X.env) :: starEach [] X.env := by rfl) (hpl : (backTo pos (starEach [] X.env)).any (·.1) = false := by rfl) :
    DE X W (.Call (.Name "dict" q) [e] [] pos) (mDictK ma) := by
  obtain ⟨t, p, k⟩ := ha
  refine ⟨_, pe_callTy (call_dictP hc) hg hm (by decide +kernel) (pa_cons p pa_nil he) (by decide) (by decide) he hpl, fun σ H φ env hp o hp' s l h Q F => ?_⟩
  unfold mDictK at h
  split at h
  · rename_i x hp1 e1
    refine k σ H φ env hp _ _ s l e1 _ fun H1 φ1 y1 s1 => ?_
    dsimp only
    intro v r
    split at h
    · rename_i xs e2
      split at h
      · rename_i mm e3
        cases h
        obtain ⟨a, us, rfl, hl, ru⟩ := rep_lst s1 r e2
        obtain ⟨ps, kvs, rfl, h2, h3⟩ := prsK_ok ru e3
        refine ⟨a, ps, kvs, rfl, SqL.of hl, h2, fun p0 hn => ?_⟩
        have y : Ext H1 φ1 hp1 (upd H1 p0 (.dK (mergeK [] kvs))) (bx φ1 hp1.length p0) (hp1 ++ [some (dicOb (mergeD [] mm))]) := Ext.box s1 hn
        have km : Kvs X.K H1 φ1 hp1 (mergeK [] kvs) (mergeD [] mm) := Kvs.merge h3 .nil
        have s2 := s1.box (u := .dK (mergeK [] kvs)) (ob := dicOb (mergeD [] mm)) hn ((km.mono s1 y).ob upd_same)
        refine F _ _ (y1.trans y) s2 _ ?_
        have e : V.ref p0 = V.ref (bx φ1 hp1.length p0 hp1.length) := by rw [bx_same]
        rw [e]
        exact .loc (by simp)
      · cases h
    · cases h
  · rename_i hx
    have h2 : ma env hp = some (o, hp') := h
    refine k σ H φ env hp _ _ s l h2 _ fun H1 φ1 y1 s1 => ?_
    cases o with
    | ok d => exact absurd h2 (hx d hp')
    | ex c d => exact F H1 φ1 y1 s1
end
end Mi
-- Gk17
set_option Elab.async false
set_option linter.all false
set_option maxRecDepth 100000
set_option maxHeartbeats 0
namespace Gw
open PySem PySem.Spec PyProof.Rows L2 Mi Co
/-! ### what the defs do -/
noncomputable def m__law_levelling : MS := (sSeq (sSet 3 (mSl gSl (mNew (mCBN gSortP (mCons (mNew (mComp (mEnum1 (mCons (mVar 0) mNil)) (gT 2 (gsCons (gN 7) (gsCons (gN 8) gsNil))) (mC true) (mTup (mCons (mVar 8) (mCons (mVar 7) mNil))) [7, 8])) mNil))) (mC none) (mPart (mVar 2))))
 (sSeq (sAsg (mTup (mCons (mDictK (mNew (mComp (mIter (mVar 3)) (gT 2 (gsCons (gN 8) (gsCons (gN 7) gsNil))) (mC true) (mTup (mCons (mVar 7) (mCons (mVar 8) mNil))) [8, 7]))) (mCons (mBox (mOpN gMulN (mNew (mLst (mCons (mC (.int 0)) mNil))) (mCB gLen (mCons (mVar 0) mNil)))) mNil))) (gT 2 (gsCons (gN 4) (gsCons (gN 5) gsNil))))
 (sSeq (sFor (mRange1 (mCons (mVar 1) mNil)) (gN 6)
 (sSeq (sSet 7 (mMaxK 4 (mNew (mCBN gSortK (mCons (mVar 4) mNil)))))
 (sSeq (sAsg (mOp gSub (mOp gKG (mVar 4) (mVar 7)) (mC (.int 1))) (gKSt (mVar 4) (mVar 7)))
 (sSeq (sAsg (mOp gAdd (mOp gIx (mVar 5) (mVar 7)) (mC (.int 1))) (gSt (mVar 5) (mVar 7)))
 sNil))))
 (sSeq (sRet (mCB gTup (mCons (mVar 5) mNil)))
 sNil))))
noncomputable def f__law_levelling : Fn := cutF (runB 9 m__law_levelling)
noncomputable def m__law_wish : MS := (sSeq (sPar 4 5 (mCons (mCB gLen (mCons (mVar 1) mNil)) (mCons (mOp gMod (mVar 3) (mC (.int 4))) mNil)))
 (sSeq (sIf (mTst (mOp gEq (mVar 5) (mC (.int 0))))
 (sSeq (sRet (mCall 3 f__law_levelling (mCons (mVar 1) (mCons (mVar 2) (mCons (mC (.int 1)) mNil)))))
 sNil)
 sNil)
 (sSeq (sIf (mTst (mOp gEq (mVar 5) (mC (.int 1))))
 (sSeq (sRet (mCall 3 f__law_levelling (mCons (mVar 1) (mCons (mVar 2) (mCons (mVar 4) mNil)))))
 sNil)
 sNil)
 (sSeq (sIf (mTst (mOp gEq (mVar 5) (mC (.int 2))))
 (sSeq (sRet (mCall 3 f__law_levelling (mCons (mVar 1) (mCons (mVar 2) (mCons (mOp gAdd (mC (.int 1)) (mCall 2 f__law_take (mCons (mVar 0) (mCons (mVar 4) mNil)))) mNil)))))
 sNil)
 sNil)
 (sSeq (sRet (mCall 3 f__law_demand (mCons (mVar 0) (mCons (mVar 4) (mCons (mVar 2) mNil)))))
 sNil)))))
noncomputable def f__law_wish : Fn := cutF (runB 6 m__law_wish)
noncomputable def m_law : MS := (sSeq (sFor (mRange1 (mCons (mCB gMax (mCons (mC (.int 1)) (mCons (mCB gMin (mCons (mC (.int 2)) (mCons (mCB gLen (mCons (mVar 0) mNil)) mNil))) mNil))) mNil)) (gN 1)
 (sSeq (sSet 2 (mCall 2 f__law_hand (mCons (mVar 0) (mCons (mVar 1) mNil))))
 (sSeq (sPar 3 4 (mCons (mOp gAdd (mC (.int 1)) (mCall 2 f__law_take (mCons (mVar 2) (mCons (mC (.int 8)) mNil)))) (mCons (mOp gAdd (mC (.int 1)) (mCall 2 f__law_take (mCons (mVar 2) (mCons (mC (.int 7)) mNil)))) mNil)))
 (sSeq (sSet 5 (mCall 3 f__law_safe_ones (mCons (mVar 2) (mCons (mVar 3) (mCons (mVar 4) mNil)))))
 (sSeq (sFor (mRange1 (mCons (mC (.int 40)) mNil)) (gN 6)
 (sSeq (sSet 7 (mCall 4 f__law_wish (mCons (mVar 2) (mCons (mVar 5) (mCons (mVar 4) (mCons (mVar 6) mNil))))))
 (sSeq (sAsg (mCall 3 f_served (mCons (mVar 5) (mCons (mVar 4) (mCons (mTup (mCons (mVar 7) mNil)) mNil)))) (gT 2 (gsCons (gN 8) (gsCons (gN 9) gsNil))))
 (sSeq (sIf (mOr (mTst (mOp gNe (mCB gLen (mCons (mVar 8) mNil)) (mC (.int 1)))) (mTst (mOp gNe (mVar 9) (mCall 4 f__law_after (mCons (mVar 5) (mCons (mVar 7) (mCons (mOp gIx (mVar 8) (mC (.int 0))) (mCons (mVar 4) mNil))))))))
 (sSeq (sRet (mC (.bl false)))
 sNil)
 sNil)
 (sSeq (sSet 10 (mCB gTup (mCons (mNew (mComp (mZip (mCons (mVar 5) (mCons (mVar 7) mNil))) (gT 2 (gsCons (gN 11) (gsCons (gN 12) gsNil))) (mC true) (mOp gSub (mVar 11) (mVar 12)) [11, 12])) mNil)))
 (sSeq (sIf (mTst (mOp gNotIn (mOp gIx (mVar 8) (mC (.int 0))) (mCall 2 f_good_grants (mCons (mVar 10) (mCons (mVar 4) mNil)))))
 (sSeq (sRet (mC (.bl false)))
 sNil)
 sNil)
 (sSeq (sIf (mOr (mTst (mOp gNotN (mCall 2 f__law_gap (mCons (mVar 9) (mCons (mVar 4) mNil))) (mC .non))) (mTst (mOp gNotB (mCall 2 f_is_safe (mCons (mVar 9) (mCons (mVar 4) mNil))) (mC (.bl true)))))
 (sSeq (sRet (mC (.bl false)))
 sNil)
 sNil)
 (sSeq (sSet 5 (mVar 9))
 sNil))))))))
 sNil)))))
 (sSeq (sRet (mC (.bl true)))
 sNil))
noncomputable def f_law : Fn := runB 13 m_law
/-! ### they do it -/
/-- builtins that no global hides -/
structure Fre (mg : Str → Option Value) : Prop where
  abs_ : mg "abs" = none
  int_ : mg "int" = none
  len_ : mg "len" = none
  list_ : mg "list" = none
  tuple_ : mg "tuple" = none
  range_ : mg "range" = none
  max_ : mg "max" = none
  sorted_ : mg "sorted" = none
  enumerate_ : mg "enumerate" = none
  zip_ : mg "zip" = none
  min_ : mg "min" = none
  dict_ : mg "dict" = none
section
variable {P : Program} {w : World} {K : PySem.W.Frag} {mg : Str → Option Value} {base : Heap} {f : Addr} {fd : FuncData}
abbrev FnP (K : PySem.W.Frag) (x : Str) (st : Stmt) (f : Addr) (fd : FuncData) : Prop := FunD K x x (defArgs st) (defBody st) (defScope st) [] [] f fd
theorem sc__law_hand : FnScope N__law_hand ["_law_script", "_law_k"] (defScope s__law_hand) := ⟨rfl, rfl, rfl, by decide +kernel, rfl, by decide +kernel, by decide +kernel⟩
theorem ok0__law_hand (F : FnP K "_law_hand" s__law_hand f fd) (fr : Fre mg)  :
    FnG P w K mg base (L2.CX P w) 1 f fd ["_law_script", "_law_k"] (spOf K mg 2 (runB 4 m__law_hand)) :=
  cal_of (k := 0) F sc__law_hand fun cdv A outer s H E b => by
    unfold m__law_hand
    exact (dss_cons (ds_set (i := 2) sc__law_hand.nd rfl (Or.inl rfl) (de_ifExp (dt_cmp (op_ltA b.hu) os_lt (de_var 1) (de_cb cr_len cs_len rfl fr.len_ bo_len (da_cons (de_var 0) da_nil))) (de_ix ix_seq os_ix (de_var 0) (de_var 1)) de_int))
 (dss_cons (ds_set (i := 3) sc__law_hand.nd rfl (Or.inl rfl) (de_op op_mulA os_mul (de_op op_mod os_mod (de_cb call_abs cs_abs rfl fr.abs_ bo_abs (da_cons (de_var 2) da_nil)) (de_op op_mulA os_mul (de_op op_mulA os_mul (de_op op_pow os_pow de_int de_int) (de_op op_pow os_pow de_int de_int)) (de_op op_pow os_pow de_int de_int))) (de_cty call_int1 cs_int rfl fr.int_ bo_int (da_cons (de_cmp op_geA os_ge (de_cb call_abs cs_abs rfl fr.abs_ bo_abs (da_cons (de_var 2) da_nil)) (de_op op_pow os_pow de_int de_int)) da_nil))))
 (dss_cons (ds_ret (de_box (dn_lst (da_cons (de_var 3) (da_cons (de_op op_mod os_mod (de_op op_mulA os_mul (de_op op_addA os_add (de_op op_addA os_add (de_op op_mod os_mod (de_var 2) de_int) (de_op op_mulA os_mul de_int (de_var 1))) de_int) de_int) de_int) (da_cons de_int da_nil))))))
 dss_nil)))
theorem ok__law_hand (F : FnP K "_law_hand" s__law_hand f fd) (fr : Fre mg) (gm : mg "_law_hand" = some (.ref f))  :
    Cal P w K mg base "_law_hand" 1 2 f__law_hand :=
  ⟨_, fd, _, (ok0__law_hand F fr ).box, gm, F.kp, F.bindsN fun _ _ _ _ _ _ us hl => match us, hl with | [_, _], _ => rfl⟩
theorem sc__law_take : FnScope N__law_take ["_law_hand_here", "_law_many"] (defScope s__law_take) := ⟨rfl, rfl, rfl, by decide +kernel, rfl, by decide +kernel, by decide +kernel⟩
theorem ok0__law_take (F : FnP K "_law_take" s__law_take f fd) (fr : Fre mg)  :
    FnG P w K mg base (L2.CX P w) 1 f fd ["_law_hand_here", "_law_many"] (spOf K mg 2 (runB 5 m__law_take)) :=
  cal_of (k := 0) F sc__law_take fun cdv A outer s H E b => by
    unfold m__law_take
    exact (dss_cons (ds_if (dt_cmp op_gtA os_gt (de_ix ix_seq os_ix (de_var 0) de_int) de_int)
 (dss_cons (ds_set (i := 2) sc__law_take.nd rfl (Or.inl rfl) (de_op op_mod os_mod (de_ix ix_seq os_ix (de_var 0) de_int) (de_var 1)))
 (dss_cons (ds_asg (de_op op_fdivW os_div (de_ix ix_seq os_ix (de_var 0) de_int) (de_var 1)) (dg_sub (W := W0) (fp := []) (de_var 0) de_int))
 (dss_cons (ds_ret (de_var 2))
 dss_nil)))
 dss_nil)
 (dss_cons (ds_asg (de_op op_addA os_add (de_ix ix_seq os_ix (de_var 0) de_int) de_int) (dg_sub (W := W0) (fp := []) (de_var 0) de_int))
 (dss_cons (ds_set (i := 3) sc__law_take.nd rfl (Or.inl rfl) (de_ix ix_seq os_ix (de_new (dn_lst (da_cons de_int (da_cons de_int (da_cons de_int (da_cons de_int (da_cons de_int da_nil))))))) (de_op op_mod os_mod (de_ix ix_seq os_ix (de_var 0) de_int) de_int)))
 (dss_cons (ds_set (i := 4) sc__law_take.nd rfl (Or.inl rfl) (de_op op_mod os_mod (de_op op_pow os_pow (de_op op_addA os_add (de_ix ix_seq os_ix (de_var 0) de_int) (de_op op_mulA os_mul de_int (de_ix ix_seq os_ix (de_var 0) de_int))) de_int) (de_var 3)))
 (dss_cons (ds_ret (de_op op_mod os_mod (de_op op_fdivW os_div (de_op op_mod os_mod (de_op op_mulA os_mul (de_var 4) (de_op op_addA os_add (de_op op_mod os_mod (de_var 4) de_int) (de_ix ix_seq os_ix (de_var 0) de_int))) (de_var 3)) de_int) (de_var 1)))
 dss_nil)))))
theorem ok__law_take (F : FnP K "_law_take" s__law_take f fd) (fr : Fre mg) (gm : mg "_law_take" = some (.ref f))  :
    Cal P w K mg base "_law_take" 1 2 f__law_take :=
  ⟨_, fd, _, (ok0__law_take F fr ).cut, gm, F.kp, F.bindsN fun _ _ _ _ _ _ us hl => match us, hl with | [_, _], _ => rfl⟩
theorem sc__law_mixed : FnScope N__law_mixed ["_law_hand_here", "_law_some"] (defScope s__law_mixed) := ⟨rfl, rfl, rfl, by decide +kernel, rfl, by decide +kernel, by decide +kernel⟩
theorem ok0__law_mixed (F : FnP K "_law_mixed" s__law_mixed f fd) (fr : Fre mg) (c__law_take : Cal P w K mg base "_law_take" 1 2 f__law_take) :
    FnG P w K mg base (L2.CX P w) 2 f fd ["_law_hand_here", "_law_some"] (spOf K mg 2 (runB 4 m__law_mixed)) :=
  cal_of (k := 1) F sc__law_mixed fun cdv A outer s H E b => by
    unfold m__law_mixed
    exact (dss_cons (ds_par (i := 2) (j := 3) rfl sc__law_mixed.nd rfl rfl (by decide) rfl rfl (da_cons (de_box (dn_cty call_list_of cn_list rfl fr.list_ bo_list (da_cons (de_var 1) da_nil))) (da_cons (de_box (dn_lst da_nil)) da_nil)) rfl)
 (dss_cons (ds_while 1000000000000000 b.po (dt_cmp (op_neA b.hu) os_ne (de_var 2) (de_new (dn_lst da_nil)))
 (dss_cons (ds_expr (de_mt PySem.F.slot_list_append PySem.F.type_list_append mt_append ms_append (de_var 3) (da_cons (de_mt PySem.F.slot_list_pop PySem.F.type_list_pop mt_popAt ms_popAt (de_var 2) (da_cons (de_callC b c__law_take (da_cons (de_var 0) (da_cons (de_cb cr_len cs_len rfl fr.len_ bo_len (da_cons (de_var 2) da_nil)) da_nil))) da_nil)) da_nil)))
 dss_nil))
 (dss_cons (ds_ret (de_var 3))
 dss_nil)))
theorem ok__law_mixed (F : FnP K "_law_mixed" s__law_mixed f fd) (fr : Fre mg) (gm : mg "_law_mixed" = some (.ref f)) (c__law_take : Cal P w K mg base "_law_take" 1 2 f__law_take) :
    Cal P w K mg base "_law_mixed" 2 2 f__law_mixed :=
  ⟨_, fd, _, (ok0__law_mixed F fr c__law_take).box, gm, F.kp, F.bindsN fun _ _ _ _ _ _ us hl => match us, hl with | [_, _], _ => rfl⟩
theorem sc__law_rows : FnScope N__law_rows ["_law_count", "_law_budget"] (defScope s__law_rows) := ⟨rfl, rfl, rfl, by decide +kernel, rfl, by decide +kernel, by decide +kernel⟩
theorem ok0__law_rows (F : FnP K "_law_rows" s__law_rows f fd) (fr : Fre mg)  :
    FnG P w K mg base (L2.CX P w) 1 f fd ["_law_count", "_law_budget"] (spOf K mg 2 (runB 3 m__law_rows)) :=
  cal_of (k := 0) F sc__law_rows fun cdv A outer s H E b => by
    unfold m__law_rows
    exact (dss_cons (ds_set (i := 2) sc__law_rows.nd rfl (Or.inl rfl) (de_box (dn_lst (da_cons (de_var 1) da_nil))))
 (dss_cons (ds_while 1000000000000000 b.po (dt_cmp (op_ltA b.hu) os_lt (de_cb cr_len cs_len rfl fr.len_ bo_len (da_cons (de_var 2) da_nil)) (de_var 0))
 (dss_cons (ds_expr (de_mt PySem.F.slot_list_append PySem.F.type_list_append mt_append ms_append (de_var 2) (da_cons (de_op op_addA os_add (de_op op_addA os_add (de_ix ix_seq os_ix (de_var 2) (de_neg de_int)) (de_op op_fdivW os_div (de_op op_subA os_sub (de_ix ix_seq os_ix (de_var 2) (de_neg de_int)) de_int) (de_cb cr_len cs_len rfl fr.len_ bo_len (da_cons (de_var 2) da_nil)))) (de_var 1)) da_nil)))
 dss_nil))
 (dss_cons (ds_ret (de_slice sl_all ss_all (de_var 2) do_none (do_some (de_var 0))))
 dss_nil)))
theorem ok__law_rows (F : FnP K "_law_rows" s__law_rows f fd) (fr : Fre mg) (gm : mg "_law_rows" = some (.ref f))  :
    Cal P w K mg base "_law_rows" 1 2 f__law_rows :=
  ⟨_, fd, _, (ok0__law_rows F fr ).cut, gm, F.kp, F.bindsN fun _ _ _ _ _ _ us hl => match us, hl with | [_, _], _ => rfl⟩
theorem sc__law_of : FnScope N__law_of ["_law_hand_here", "_law_some"] (defScope s__law_of) := ⟨rfl, rfl, rfl, by decide +kernel, rfl, by decide +kernel, by decide +kernel⟩
theorem ok0__law_of (F : FnP K "_law_of" s__law_of f fd) (fr : Fre mg) (c__law_take : Cal P w K mg base "_law_take" 1 2 f__law_take) :
    FnG P w K mg base (L2.CX P w) 2 f fd ["_law_hand_here", "_law_some"] (spOf K mg 2 (runB 2 m__law_of)) :=
  cal_of (k := 1) F sc__law_of fun cdv A outer s H E b => by
    unfold m__law_of
    exact (dss_cons (ds_ret (de_ix ix_seq os_ix (de_var 1) (de_callC b c__law_take (da_cons (de_var 0) (da_cons (de_cb cr_len cs_len rfl fr.len_ bo_len (da_cons (de_var 1) da_nil)) da_nil)))))
 dss_nil)
theorem ok__law_of (F : FnP K "_law_of" s__law_of f fd) (fr : Fre mg) (gm : mg "_law_of" = some (.ref f)) (c__law_take : Cal P w K mg base "_law_take" 1 2 f__law_take) :
    Cal P w K mg base "_law_of" 2 2 f__law_of :=
  ⟨_, fd, _, (ok0__law_of F fr c__law_take).cut, gm, F.kp, F.bindsN fun _ _ _ _ _ _ us hl => match us, hl with | [_, _], _ => rfl⟩
theorem sc__law_near : FnScope N__law_near ["_law_hand_here", "_law_count", "_law_budget"] (defScope s__law_near) := ⟨rfl, rfl, rfl, by decide +kernel, rfl, by decide +kernel, by decide +kernel⟩
theorem ok0__law_near (F : FnP K "_law_near" s__law_near f fd) (fr : Fre mg) (c__law_of : Cal P w K mg base "_law_of" 2 2 f__law_of) (c__law_take : Cal P w K mg base "_law_take" 1 2 f__law_take) (c__law_mixed : Cal P w K mg base "_law_mixed" 2 2 f__law_mixed) (c__law_rows : Cal P w K mg base "_law_rows" 1 2 f__law_rows) :
    FnG P w K mg base (L2.CX P w) 3 f fd ["_law_hand_here", "_law_count", "_law_budget"] (spOf K mg 3 (runB 11 m__law_near)) :=
  cal_of (k := 2) F sc__law_near fun cdv A outer s H E b => by
    unfold m__law_near
    exact (dss_cons (ds_set (i := 3) sc__law_near.nd rfl (Or.inr rfl) (de_op op_addA os_add (de_new (dn_lst (da_cons de_int da_nil))) (de_callC b c__law_rows (da_cons (de_var 1) (da_cons (de_var 2) da_nil)))))
 (dss_cons (ds_set (i := 4) sc__law_near.nd rfl (Or.inl rfl) (de_callC b c__law_mixed (da_cons (de_var 0) (da_cons (de_new (dn_comp (own := [("_law_k", 10)]) (fp := [10]) rfl sc__law_near.nd (di_range1 rfl fr.range_ (da_cons (de_var 1) da_nil)) (show BlkOk N__law_near (defScope s__law_near) _ [("_law_k", 10)] from ⟨rfl, by decide +kernel, by decide +kernel, by decide +kernel, by decide +kernel⟩) (by decide) (fun s H C cl ad => (dg_name (i := 10) sc__law_near.nd rfl (Or.inl rfl))) .nil (fun s H C cl ad => (de_op op_subA os_sub (de_ix ix_seq os_ix (de_var 3) (de_op op_addA os_add (de_var 10) de_int)) (de_ix ix_seq os_ix (de_var 3) (de_var 10)))))) da_nil))))
 (dss_cons (ds_for b.po rfl (di_range1 rfl fr.range_ (da_cons (de_callC b c__law_take (da_cons (de_var 0) (da_cons (de_op op_addA os_add (de_op op_mulA os_mul de_int (de_var 1)) de_int) da_nil))) da_nil)) (dg_name (i := 5) sc__law_near.nd rfl (Or.inl rfl))
 (dss_cons (ds_par (i := 6) (j := 7) rfl sc__law_near.nd rfl rfl (by decide) rfl rfl (da_cons (de_callC b c__law_take (da_cons (de_var 0) (da_cons (de_var 1) da_nil))) (da_cons (de_callC b c__law_take (da_cons (de_var 0) (da_cons (de_var 1) da_nil))) da_nil)) rfl)
 (dss_cons (ds_set (i := 8) sc__law_near.nd rfl (Or.inl rfl) (de_callC b c__law_of (da_cons (de_var 0) (da_cons (de_new (dn_lst (da_cons de_int (da_cons de_int (da_cons de_int (da_cons de_int (da_cons de_int da_nil))))))) da_nil))))
 (dss_cons (ds_if (dt_cmp op_geA os_ge (de_ix ix_seq os_ix (de_var 4) (de_var 6)) (de_var 8))
 (dss_cons (ds_asg (de_op op_subA os_sub (de_ix ix_seq os_ix (de_var 4) (de_var 6)) (de_var 8)) (dg_sub (W := W0) (fp := []) (de_var 4) (de_var 6)))
 (dss_cons (ds_asg (de_op op_addA os_add (de_ix ix_seq os_ix (de_var 4) (de_var 7)) (de_var 8)) (dg_sub (W := W0) (fp := []) (de_var 4) (de_var 7)))
 dss_nil))
 dss_nil)
 dss_nil))))
 (dss_cons (ds_for b.po rfl (di_range1 rfl fr.range_ (da_cons (de_var 1) da_nil)) (dg_name (i := 9) sc__law_near.nd rfl (Or.inl rfl))
 (dss_cons (ds_asg (de_cb (cr_maxA rfl) cs_max rfl fr.max_ bo_max (da_cons de_int (da_cons (de_op op_addA os_add (de_ix ix_seq os_ix (de_var 4) (de_var 9)) (de_callC b c__law_of (da_cons (de_var 0) (da_cons (de_new (dn_lst (da_cons de_int (da_cons de_int (da_cons de_int (da_cons de_int (da_cons de_int (da_cons de_int (da_cons de_int (da_cons de_int (da_cons (de_neg de_int) (da_cons (de_var 2) da_nil)))))))))))) da_nil)))) da_nil))) (dg_sub (W := W0) (fp := []) (de_var 4) (de_var 9)))
 dss_nil))
 (dss_cons (ds_ret (de_cty call_tupleD cs_tup rfl fr.tuple_ bo_tuple (da_cons (de_var 4) da_nil)))
 dss_nil)))))
theorem ok__law_near (F : FnP K "_law_near" s__law_near f fd) (fr : Fre mg) (gm : mg "_law_near" = some (.ref f)) (c__law_of : Cal P w K mg base "_law_of" 2 2 f__law_of) (c__law_take : Cal P w K mg base "_law_take" 1 2 f__law_take) (c__law_mixed : Cal P w K mg base "_law_mixed" 2 2 f__law_mixed) (c__law_rows : Cal P w K mg base "_law_rows" 1 2 f__law_rows) :
    Cal P w K mg base "_law_near" 3 3 f__law_near :=
  ⟨_, fd, _, (ok0__law_near F fr c__law_of c__law_take c__law_mixed c__law_rows).cut, gm, F.kp, F.bindsN fun _ _ _ _ _ _ us hl => match us, hl with | [_, _, _], _ => rfl⟩
theorem sc__law_gap : FnScope N__law_gap ["_law_balances", "_law_budget"] (defScope s__law_gap) := ⟨rfl, rfl, rfl, by decide +kernel, rfl, by decide +kernel, by decide +kernel⟩
theorem ok0__law_gap (F : FnP K "_law_gap" s__law_gap f fd) (fr : Fre mg) (c__law_rows : Cal P w K mg base "_law_rows" 1 2 f__law_rows) :
    FnG P w K mg base (L2.CX P w) 2 f fd ["_law_balances", "_law_budget"] (spOf K mg 2 (runB 6 m__law_gap)) :=
  cal_of (k := 1) F sc__law_gap fun cdv A outer s H E b => by
    unfold m__law_gap
    exact (dss_cons (ds_set (i := 2) sc__law_gap.nd rfl (Or.inl rfl) de_int)
 (dss_cons (ds_for b.po rfl (di_enumZ rfl fr.enumerate_ rfl fr.zip_ (da_cons (de_new (dn_cb cr_sortK cn_sorted rfl fr.sorted_ bo_sorted (da_cons (de_var 0) da_nil))) (da_cons (de_callC b c__law_rows (da_cons (de_cb cr_len cs_len rfl fr.len_ bo_len (da_cons (de_var 0) da_nil)) (da_cons (de_var 1) da_nil))) da_nil))) (dg_tup rfl (dgs_cons (dg_name (i := 3) sc__law_gap.nd rfl (Or.inl rfl)) (dgs_cons (dg_tup rfl (dgs_cons (dg_name (i := 4) sc__law_gap.nd rfl (Or.inl rfl)) (dgs_cons (dg_name (i := 5) sc__law_gap.nd rfl (Or.inl rfl)) (dgs_nil (fp := []))))) (dgs_nil (fp := [])))))
 (dss_cons (ds_set (i := 2) sc__law_gap.nd rfl (Or.inl rfl) (de_op op_addA os_add (de_var 2) (de_var 4)))
 (dss_cons (ds_if (dt_cmp (op_ltA b.hu) os_lt (de_var 2) (de_var 5))
 (dss_cons (ds_ret (de_op op_addA os_add (de_var 3) de_int))
 dss_nil)
 dss_nil)
 dss_nil)))
 (dss_cons (ds_ret de_non)
 dss_nil)))
theorem ok__law_gap (F : FnP K "_law_gap" s__law_gap f fd) (fr : Fre mg) (gm : mg "_law_gap" = some (.ref f)) (c__law_rows : Cal P w K mg base "_law_rows" 1 2 f__law_rows) :
    Cal P w K mg base "_law_gap" 2 2 f__law_gap :=
  ⟨_, fd, _, (ok0__law_gap F fr c__law_rows).cut, gm, F.kp, F.bindsN fun _ _ _ _ _ _ us hl => match us, hl with | [_, _], _ => rfl⟩
theorem sc__law_safe_ones : FnScope N__law_safe_ones ["_law_hand_here", "_law_count", "_law_budget"] (defScope s__law_safe_ones) := ⟨rfl, rfl, rfl, by decide +kernel, rfl, by decide +kernel, by decide +kernel⟩
theorem ok0__law_safe_ones (F : FnP K "_law_safe_ones" s__law_safe_ones f fd) (fr : Fre mg) (c__law_gap : Cal P w K mg base "_law_gap" 2 2 f__law_gap) (c__law_take : Cal P w K mg base "_law_take" 1 2 f__law_take) (c__law_near : Cal P w K mg base "_law_near" 3 3 f__law_near) :
    FnG P w K mg base (L2.CX P w) 4 f fd ["_law_hand_here", "_law_count", "_law_budget"] (spOf K mg 3 (runB 5 m__law_safe_ones)) :=
  cal_of (k := 3) F sc__law_safe_ones fun cdv A outer s H E b => by
    unfold m__law_safe_ones
    exact (dss_cons (ds_set (i := 3) sc__law_safe_ones.nd rfl (Or.inl rfl) (de_box (dn_cty call_list_of cn_list rfl fr.list_ bo_list (da_cons (de_callC b c__law_near (da_cons (de_var 0) (da_cons (de_var 1) (da_cons (de_var 2) da_nil)))) da_nil))))
 (dss_cons (ds_while 1000000000000000 b.po (dt_cmp op_notN os_notN (de_callC b c__law_gap (da_cons (de_var 3) (da_cons (de_var 2) da_nil))) de_non)
 (dss_cons (ds_set (i := 4) sc__law_safe_ones.nd rfl (Or.inl rfl) (de_index b.hu65 rfl (de_var 3) (da_cons (de_cb (cr_minA rfl) cs_min rfl fr.min_ bo_min (da_cons (de_var 3) da_nil)) da_nil)))
 (dss_cons (ds_asg (de_op op_addA os_add (de_op op_addA os_add (de_ix ix_seq os_ix (de_var 3) (de_var 4)) de_int) (de_callC b c__law_take (da_cons (de_var 0) (da_cons de_int da_nil)))) (dg_sub (W := W0) (fp := []) (de_var 3) (de_var 4)))
 dss_nil)))
 (dss_cons (ds_ret (de_cty call_tupleD cs_tup rfl fr.tuple_ bo_tuple (da_cons (de_var 3) da_nil)))
 dss_nil)))
theorem ok__law_safe_ones (F : FnP K "_law_safe_ones" s__law_safe_ones f fd) (fr : Fre mg) (gm : mg "_law_safe_ones" = some (.ref f)) (c__law_gap : Cal P w K mg base "_law_gap" 2 2 f__law_gap) (c__law_take : Cal P w K mg base "_law_take" 1 2 f__law_take) (c__law_near : Cal P w K mg base "_law_near" 3 3 f__law_near) :
    Cal P w K mg base "_law_safe_ones" 4 3 f__law_safe_ones :=
  ⟨_, fd, _, (ok0__law_safe_ones F fr c__law_gap c__law_take c__law_near).cut, gm, F.kp, F.bindsN fun _ _ _ _ _ _ us hl => match us, hl with | [_, _, _], _ => rfl⟩
theorem sc__law_demand : FnScope N__law_demand ["_law_hand_here", "_law_count", "_law_budget"] (defScope s__law_demand) := ⟨rfl, rfl, rfl, by decide +kernel, rfl, by decide +kernel, by decide +kernel⟩
theorem ok0__law_demand (F : FnP K "_law_demand" s__law_demand f fd) (fr : Fre mg) (c__law_take : Cal P w K mg base "_law_take" 1 2 f__law_take) :
    FnG P w K mg base (L2.CX P w) 2 f fd ["_law_hand_here", "_law_count", "_law_budget"] (spOf K mg 3 (runB 7 m__law_demand)) :=
  cal_of (k := 1) F sc__law_demand fun cdv A outer s H E b => by
    unfold m__law_demand
    exact (dss_cons (ds_par (i := 3) (j := 4) rfl sc__law_demand.nd rfl rfl (by decide) rfl rfl (da_cons (de_box (dn_op op_rep on_mul (de_new (dn_lst (da_cons de_int da_nil))) (de_var 1))) (da_cons (de_var 2) da_nil)) rfl)
 (dss_cons (ds_while 1000000000000000 b.po (dt_cmp op_gtA os_gt (de_var 4) de_int)
 (dss_cons (ds_set (i := 5) sc__law_demand.nd rfl (Or.inl rfl) (de_op op_addA os_add de_int (de_callC b c__law_take (da_cons (de_var 0) (da_cons (de_var 4) da_nil)))))
 (dss_cons (ds_set (i := 6) sc__law_demand.nd rfl (Or.inl rfl) (de_callC b c__law_take (da_cons (de_var 0) (da_cons (de_op op_addA os_add (de_var 1) de_int) da_nil))))
 (dss_cons (ds_if (dt_cmp (op_ltA b.hu) os_lt (de_var 6) (de_var 1))
 (dss_cons (ds_asg (de_op op_addA os_add (de_ix ix_seq os_ix (de_var 3) (de_var 6)) (de_var 5)) (dg_sub (W := W0) (fp := []) (de_var 3) (de_var 6)))
 dss_nil)
 dss_nil)
 (dss_cons (ds_set (i := 4) sc__law_demand.nd rfl (Or.inl rfl) (de_op op_subA os_sub (de_var 4) (de_var 5)))
 dss_nil)))))
 (dss_cons (ds_ret (de_cty call_tupleD cs_tup rfl fr.tuple_ bo_tuple (da_cons (de_var 3) da_nil)))
 dss_nil)))
theorem ok__law_demand (F : FnP K "_law_demand" s__law_demand f fd) (fr : Fre mg) (gm : mg "_law_demand" = some (.ref f)) (c__law_take : Cal P w K mg base "_law_take" 1 2 f__law_take) :
    Cal P w K mg base "_law_demand" 2 3 f__law_demand :=
  ⟨_, fd, _, (ok0__law_demand F fr c__law_take).cut, gm, F.kp, F.bindsN fun _ _ _ _ _ _ us hl => match us, hl with | [_, _, _], _ => rfl⟩
theorem sc__law_levelling : FnScope N__law_levelling ["_law_balances", "_law_budget", "_law_size"] (defScope s__law_levelling) := ⟨rfl, rfl, rfl, by decide +kernel, rfl, by decide +kernel, by decide +kernel⟩
theorem ok0__law_levelling (F : FnP K "_law_levelling" s__law_levelling (He.fAd K ("_law_levelling", none)) fd) (fr : Fre mg)  (tb : TbB K mg base) (lm : LamM K "_law_levelling") :
    FnG P w K mg base (L2.CX P w) 3 (He.fAd K ("_law_levelling", none)) fd ["_law_balances", "_law_budget", "_law_size"] (spOf K mg 3 (runB 9 m__law_levelling)) :=
  cal_ofL (k := 2) F sc__law_levelling fun cdv A outer s H E ec b => by
    unfold m__law_levelling
    exact (dss_cons (ds_set (i := 3) sc__law_levelling.nd rfl (Or.inl rfl) (de_slice sl_all ss_all (de_new (dn_cb cr_sortD cn_sortP rfl fr.sorted_ bo_sorted (da_cons (de_new (dn_comp (own := [("_law_at", 7), ("_law_balance", 8)]) (fp := [7, 8]) rfl sc__law_levelling.nd (di_enum1 rfl fr.enumerate_ (da_cons (de_var 0) da_nil)) (show BlkOk N__law_levelling (defScope s__law_levelling) _ [("_law_at", 7), ("_law_balance", 8)] from ⟨rfl, by decide +kernel, by decide +kernel, by decide +kernel, by decide +kernel⟩) (by decide) (fun s H C cl ad => (dg_tup rfl (dgs_cons (dg_name (i := 7) sc__law_levelling.nd rfl (Or.inl rfl)) (dgs_cons (dg_name (i := 8) sc__law_levelling.nd rfl (Or.inl rfl)) (dgs_nil (fp := [])))))) .nil (fun s H C cl ad => (de_tup (da_cons (de_var 8) (da_cons (de_var 7) da_nil)))))) da_nil))) do_none (do_some (de_var 2))))
 (dss_cons (ds_asg (de_tup (da_cons (de_dictK rfl rfl fr.dict_ (de_new (dn_comp (own := [("_law_balance", 8), ("_law_at", 7)]) (fp := [8, 7]) rfl sc__law_levelling.nd (di_seq (de_var 3)) (show BlkOk N__law_levelling (defScope s__law_levelling) _ [("_law_balance", 8), ("_law_at", 7)] from ⟨rfl, by decide +kernel, by decide +kernel, by decide +kernel, by decide +kernel⟩) (by decide) (fun s H C cl ad => (dg_tup rfl (dgs_cons (dg_name (i := 8) sc__law_levelling.nd rfl (Or.inl rfl)) (dgs_cons (dg_name (i := 7) sc__law_levelling.nd rfl (Or.inl rfl)) (dgs_nil (fp := [])))))) .nil (fun s H C cl ad => (de_tup (da_cons (de_var 7) (da_cons (de_var 8) da_nil))))))) (da_cons (de_box (dn_op op_rep on_mul (de_new (dn_lst (da_cons de_int da_nil))) (de_cb cr_len cs_len rfl fr.len_ bo_len (da_cons (de_var 0) da_nil)))) da_nil))) (dg_tup rfl (dgs_cons (dg_name (i := 4) sc__law_levelling.nd rfl (Or.inr rfl)) (dgs_cons (dg_name (i := 5) sc__law_levelling.nd rfl (Or.inl rfl)) (dgs_nil (fp := []))))))
 (dss_cons (ds_for b.po rfl (di_range1 rfl fr.range_ (da_cons (de_var 1) da_nil)) (dg_name (i := 6) sc__law_levelling.nd rfl (Or.inl rfl))
 (dss_cons (ds_set (i := 7) sc__law_levelling.nd rfl (Or.inl rfl) (de_maxKC (i := 4) (sc := defScope s__law_levelling) b (de_new (dn_sortK rfl rfl fr.sorted_ (da_cons (de_var 4) da_nil))) tb lm ec fr.max_ rfl))
 (dss_cons (ds_asg (de_op op_subA os_sub (de_kG b.hu1 (de_var 4) (de_var 7) (fun _ _ => rfl)) de_int) (dg_kst (W := W0) (fp := []) b.hu1 (de_var 4) (de_var 7)))
 (dss_cons (ds_asg (de_op op_addA os_add (de_ix ix_seq os_ix (de_var 5) (de_var 7)) de_int) (dg_sub (W := W0) (fp := []) (de_var 5) (de_var 7)))
 dss_nil))))
 (dss_cons (ds_ret (de_cty call_tupleD cs_tup rfl fr.tuple_ bo_tuple (da_cons (de_var 5) da_nil)))
 dss_nil))))
theorem ok__law_levelling (F : FnP K "_law_levelling" s__law_levelling (He.fAd K ("_law_levelling", none)) fd) (fr : Fre mg) (gm : mg "_law_levelling" = some (.ref (He.fAd K ("_law_levelling", none))))  (tb : TbB K mg base) (lm : LamM K "_law_levelling") :
    Cal P w K mg base "_law_levelling" 3 3 f__law_levelling :=
  ⟨_, fd, _, (ok0__law_levelling F fr tb lm).cut, gm, F.kp, F.bindsN fun _ _ _ _ _ _ us hl => match us, hl with | [_, _, _], _ => rfl⟩
theorem sc__law_wish : FnScope N__law_wish ["_law_hand_here", "_law_balances", "_law_budget", "_law_turn"] (defScope s__law_wish) := ⟨rfl, rfl, rfl, by decide +kernel, rfl, by decide +kernel, by decide +kernel⟩
theorem ok0__law_wish (F : FnP K "_law_wish" s__law_wish f fd) (fr : Fre mg) (c__law_demand : Cal P w K mg base "_law_demand" 2 3 f__law_demand) (c__law_take : Cal P w K mg base "_law_take" 1 2 f__law_take) (c__law_levelling : Cal P w K mg base "_law_levelling" 3 3 f__law_levelling) :
    FnG P w K mg base (L2.CX P w) 4 f fd ["_law_hand_here", "_law_balances", "_law_budget", "_law_turn"] (spOf K mg 4 (runB 6 m__law_wish)) :=
  cal_of (k := 3) F sc__law_wish fun cdv A outer s H E b => by
    unfold m__law_wish
    exact (dss_cons (ds_par (i := 4) (j := 5) rfl sc__law_wish.nd rfl rfl (by decide) rfl rfl (da_cons (de_cb cr_len cs_len rfl fr.len_ bo_len (da_cons (de_var 1) da_nil)) (da_cons (de_op op_mod os_mod (de_var 3) de_int) da_nil)) rfl)
 (dss_cons (ds_if (dt_cmp (op_eqA b.hu) os_eq (de_var 5) de_int)
 (dss_cons (ds_ret (de_callC b c__law_levelling (da_cons (de_var 1) (da_cons (de_var 2) (da_cons de_int da_nil)))))
 dss_nil)
 dss_nil)
 (dss_cons (ds_if (dt_cmp (op_eqA b.hu) os_eq (de_var 5) de_int)
 (dss_cons (ds_ret (de_callC b c__law_levelling (da_cons (de_var 1) (da_cons (de_var 2) (da_cons (de_var 4) da_nil)))))
 dss_nil)
 dss_nil)
 (dss_cons (ds_if (dt_cmp (op_eqA b.hu) os_eq (de_var 5) de_int)
 (dss_cons (ds_ret (de_callC b c__law_levelling (da_cons (de_var 1) (da_cons (de_var 2) (da_cons (de_op op_addA os_add de_int (de_callC b c__law_take (da_cons (de_var 0) (da_cons (de_var 4) da_nil)))) da_nil)))))
 dss_nil)
 dss_nil)
 (dss_cons (ds_ret (de_callC b c__law_demand (da_cons (de_var 0) (da_cons (de_var 4) (da_cons (de_var 2) da_nil)))))
 dss_nil)))))
theorem ok__law_wish (F : FnP K "_law_wish" s__law_wish f fd) (fr : Fre mg) (gm : mg "_law_wish" = some (.ref f)) (c__law_demand : Cal P w K mg base "_law_demand" 2 3 f__law_demand) (c__law_take : Cal P w K mg base "_law_take" 1 2 f__law_take) (c__law_levelling : Cal P w K mg base "_law_levelling" 3 3 f__law_levelling) :
    Cal P w K mg base "_law_wish" 4 4 f__law_wish :=
  ⟨_, fd, _, (ok0__law_wish F fr c__law_demand c__law_take c__law_levelling).cut, gm, F.kp, F.bindsN fun _ _ _ _ _ _ us hl => match us, hl with | [_, _, _, _], _ => rfl⟩
theorem sc_stalled : FnScope N_stalled ["balances", "demand"] (defScope s_stalled) := ⟨rfl, rfl, rfl, by decide +kernel, rfl, by decide +kernel, by decide +kernel⟩
theorem ok0_stalled (F : FnP K "stalled" s_stalled f fd) (fr : Fre mg)  :
    FnG P w K mg base (L2.CX P w) 1 f fd ["balances", "demand"] (spOf K mg 2 (runB 4 m_stalled)) :=
  cal_of (k := 0) F sc_stalled fun cdv A outer s H E b => by
    unfold m_stalled
    exact (dss_cons (ds_ret (de_cty call_tupleD cs_tup rfl fr.tuple_ bo_tuple (da_cons (de_new (dn_comp (own := [("at", 2), ("balance", 3)]) (fp := [2, 3]) rfl sc_stalled.nd (di_enum1 rfl fr.enumerate_ (da_cons (de_var 0) da_nil)) (show BlkOk N_stalled (defScope s_stalled) _ [("at", 2), ("balance", 3)] from ⟨rfl, by decide +kernel, by decide +kernel, by decide +kernel, by decide +kernel⟩) (by decide) (fun s H C cl ad => (dg_tup rfl (dgs_cons (dg_name (i := 2) sc_stalled.nd rfl (Or.inl rfl)) (dgs_cons (dg_name (i := 3) sc_stalled.nd rfl (Or.inl rfl)) (dgs_nil (fp := [])))))) (.one fun s H C cl ad => (dt_cmp op_gtA os_gt (de_ix ix_seq os_ix (de_var 1) (de_var 2)) (de_var 3))) (fun s H C cl ad => (de_var 2)))) da_nil)))
 dss_nil)
theorem ok_stalled (F : FnP K "stalled" s_stalled f fd) (fr : Fre mg) (gm : mg "stalled" = some (.ref f))  :
    Cal P w K mg base "stalled" 1 2 f_stalled :=
  ⟨_, fd, _, (ok0_stalled F fr ).cut, gm, F.kp, F.bindsN fun _ _ _ _ _ _ us hl => match us, hl with | [_, _], _ => rfl⟩
theorem sc_less_demand : FnScope N_less_demand ["balances", "demand"] (defScope s_less_demand) := ⟨rfl, rfl, rfl, by decide +kernel, rfl, by decide +kernel, by decide +kernel⟩
theorem ok0_less_demand (F : FnP K "less_demand" s_less_demand f fd) (fr : Fre mg) (c_stalled : Cal P w K mg base "stalled" 1 2 f_stalled) (r_Stall : Rs1 P w K mg base "Stall") :
    FnG P w K mg base (L2.CX P w) 3 f fd ["balances", "demand"] (spOf K mg 2 (runB 5 m_less_demand)) :=
  cal_of (k := 2) F sc_less_demand fun cdv A outer s H E b => by
    unfold m_less_demand
    exact (dss_cons (ds_set (i := 2) sc_less_demand.nd rfl (Or.inl rfl) (de_callC b c_stalled (da_cons (de_var 0) (da_cons (de_var 1) da_nil))))
 (dss_cons (ds_if (dt_cmp (op_neA b.hu) os_ne (de_var 2) (de_tup da_nil))
 (dss_cons (ds_raise1 b r_Stall (de_var 2))
 dss_nil)
 dss_nil)
 (dss_cons (ds_ret (de_cty call_tupleD cs_tup rfl fr.tuple_ bo_tuple (da_cons (de_new (dn_comp (own := [("balance", 3), ("amount", 4)]) (fp := [3, 4]) rfl sc_less_demand.nd (di_zip rfl fr.zip_ (da_cons (de_var 0) (da_cons (de_var 1) da_nil))) (show BlkOk N_less_demand (defScope s_less_demand) _ [("balance", 3), ("amount", 4)] from ⟨rfl, by decide +kernel, by decide +kernel, by decide +kernel, by decide +kernel⟩) (by decide) (fun s H C cl ad => (dg_tup rfl (dgs_cons (dg_name (i := 3) sc_less_demand.nd rfl (Or.inl rfl)) (dgs_cons (dg_name (i := 4) sc_less_demand.nd rfl (Or.inl rfl)) (dgs_nil (fp := [])))))) .nil (fun s H C cl ad => (de_op op_subA os_sub (de_var 3) (de_var 4))))) da_nil)))
 dss_nil)))
theorem ok_less_demand (F : FnP K "less_demand" s_less_demand f fd) (fr : Fre mg) (gm : mg "less_demand" = some (.ref f)) (c_stalled : Cal P w K mg base "stalled" 1 2 f_stalled) (r_Stall : Rs1 P w K mg base "Stall") :
    Cal P w K mg base "less_demand" 3 2 f_less_demand :=
  ⟨_, fd, _, (ok0_less_demand F fr c_stalled r_Stall).cut, gm, F.kp, F.bindsN fun _ _ _ _ _ _ us hl => match us, hl with | [_, _], _ => rfl⟩
theorem sc_changed : FnScope N_changed ["balances", "sender", "amount"] (defScope s_changed) := ⟨rfl, rfl, rfl, by decide +kernel, rfl, by decide +kernel, by decide +kernel⟩
theorem ok0_changed (F : FnP K "changed" s_changed f fd) (fr : Fre mg)  :
    FnG P w K mg base (L2.CX P w) 1 f fd ["balances", "sender", "amount"] (spOf K mg 3 (runB 3 m_changed)) :=
  cal_of (k := 0) F sc_changed fun cdv A outer s H E b => by
    unfold m_changed
    exact (dss_cons (ds_ret (de_op op_addA os_add (de_op op_addA os_add (de_slice sl_all ss_all (de_var 0) do_none (do_some (de_var 1))) (de_tup (da_cons (de_op op_addA os_add (de_ix ix_seq os_ix (de_var 0) (de_var 1)) (de_var 2)) da_nil))) (de_slice sl_all ss_all (de_var 0) (do_some (de_op op_addA os_add (de_var 1) de_int)) do_none)))
 dss_nil)
theorem ok_changed (F : FnP K "changed" s_changed f fd) (fr : Fre mg) (gm : mg "changed" = some (.ref f))  :
    Cal P w K mg base "changed" 1 3 f_changed :=
  ⟨_, fd, _, (ok0_changed F fr ).cut, gm, F.kp, F.bindsN fun _ _ _ _ _ _ us hl => match us, hl with | [_, _, _], _ => rfl⟩
theorem sc_best_grant : FnScope N_best_grant ["balances"] (defScope s_best_grant) := ⟨rfl, rfl, rfl, by decide +kernel, rfl, by decide +kernel, by decide +kernel⟩
theorem ok0_best_grant (F : FnP K "best_grant" s_best_grant f fd) (fr : Fre mg)  :
    FnG P w K mg base (L2.CX P w) 1 f fd ["balances"] (spOf K mg 1 (runB 1 m_best_grant)) :=
  cal_of (k := 0) F sc_best_grant fun cdv A outer s H E b => by
    unfold m_best_grant
    exact (dss_cons (ds_ret (de_index b.hu65 rfl (de_var 0) (da_cons (de_cb (cr_minA rfl) cs_min rfl fr.min_ bo_min (da_cons (de_var 0) da_nil)) da_nil)))
 dss_nil)
theorem ok_best_grant (F : FnP K "best_grant" s_best_grant f fd) (fr : Fre mg) (gm : mg "best_grant" = some (.ref f))  :
    Cal P w K mg base "best_grant" 1 1 f_best_grant :=
  ⟨_, fd, _, (ok0_best_grant F fr ).cut, gm, F.kp, F.bindsN fun _ _ _ _ _ _ us hl => match us, hl with | [_], _ => rfl⟩
theorem sc_served : FnScope N_served ["balances", "budget", "demands"] (defScope s_served) := ⟨rfl, rfl, rfl, by decide +kernel, rfl, by decide +kernel, by decide +kernel⟩
theorem ok0_served (F : FnP K "served" s_served f fd) (fr : Fre mg) (c_changed : Cal P w K mg base "changed" 1 3 f_changed) (c_best_grant : Cal P w K mg base "best_grant" 1 1 f_best_grant) (c_less_demand : Cal P w K mg base "less_demand" 3 2 f_less_demand) (c_stalled : Cal P w K mg base "stalled" 1 2 f_stalled) :
    FnG P w K mg base (L2.CX P w) 4 f fd ["balances", "budget", "demands"] (spOf K mg 3 (runB 7 m_served)) :=
  cal_of (k := 3) F sc_served fun cdv A outer s H E b => by
    unfold m_served
    exact (dss_cons (ds_par (i := 3) (j := 4) rfl sc_served.nd rfl rfl (by decide) rfl rfl (da_cons (de_box (dn_lst da_nil)) (da_cons (de_var 0) da_nil)) rfl)
 (dss_cons (ds_for b.po rfl (di_seq (de_var 2)) (dg_name (i := 5) sc_served.nd rfl (Or.inl rfl))
 (dss_cons (ds_if (dt_cmp (op_neA b.hu) os_ne (de_callC b c_stalled (da_cons (de_var 4) (da_cons (de_var 5) da_nil))) (de_tup da_nil))
 (dss_cons ds_break
 dss_nil)
 dss_nil)
 (dss_cons (ds_set (i := 6) sc_served.nd rfl (Or.inl rfl) (de_callC b c_less_demand (da_cons (de_var 4) (da_cons (de_var 5) da_nil))))
 (dss_cons (ds_expr (de_mt PySem.F.slot_list_append PySem.F.type_list_append mt_append ms_append (de_var 3) (da_cons (de_callC b c_best_grant (da_cons (de_var 6) da_nil)) da_nil)))
 (dss_cons (ds_set (i := 4) sc_served.nd rfl (Or.inl rfl) (de_callC b c_changed (da_cons (de_var 6) (da_cons (de_ix ix_seq os_ix (de_var 3) (de_neg de_int)) (da_cons (de_var 1) da_nil)))))
 dss_nil)))))
 (dss_cons (ds_ret (de_tup (da_cons (de_cty call_tupleD cs_tup rfl fr.tuple_ bo_tuple (da_cons (de_var 3) da_nil)) (da_cons (de_var 4) da_nil))))
 dss_nil)))
theorem ok_served (F : FnP K "served" s_served f fd) (fr : Fre mg) (gm : mg "served" = some (.ref f)) (c_changed : Cal P w K mg base "changed" 1 3 f_changed) (c_best_grant : Cal P w K mg base "best_grant" 1 1 f_best_grant) (c_less_demand : Cal P w K mg base "less_demand" 3 2 f_less_demand) (c_stalled : Cal P w K mg base "stalled" 1 2 f_stalled) :
    Cal P w K mg base "served" 4 3 f_served :=
  ⟨_, fd, _, (ok0_served F fr c_changed c_best_grant c_less_demand c_stalled).cut, gm, F.kp, F.bindsN fun _ _ _ _ _ _ us hl => match us, hl with | [_, _, _], _ => rfl⟩
theorem sc_sums : FnScope N_sums ["balances"] (defScope s_sums) := ⟨rfl, rfl, rfl, by decide +kernel, rfl, by decide +kernel, by decide +kernel⟩
theorem ok0_sums (F : FnP K "sums" s_sums f fd) (fr : Fre mg)  :
    FnG P w K mg base (L2.CX P w) 1 f fd ["balances"] (spOf K mg 1 (runB 4 m_sums)) :=
  cal_of (k := 0) F sc_sums fun cdv A outer s H E b => by
    unfold m_sums
    exact (dss_cons (ds_par (i := 1) (j := 2) rfl sc_sums.nd rfl rfl (by decide) rfl rfl (da_cons (de_box (dn_lst da_nil)) (da_cons de_int da_nil)) rfl)
 (dss_cons (ds_for b.po rfl (di_seq (de_new (dn_cb cr_sortK cn_sorted rfl fr.sorted_ bo_sorted (da_cons (de_var 0) da_nil)))) (dg_name (i := 3) sc_sums.nd rfl (Or.inl rfl))
 (dss_cons (ds_aug (i := 2) sc_sums.nd rfl (Or.inl rfl) (de_var 3) ip_add)
 (dss_cons (ds_expr (de_mt PySem.F.slot_list_append PySem.F.type_list_append mt_append ms_append (de_var 1) (da_cons (de_var 2) da_nil)))
 dss_nil)))
 (dss_cons (ds_ret (de_cty call_tupleD cs_tup rfl fr.tuple_ bo_tuple (da_cons (de_var 1) da_nil)))
 dss_nil)))
theorem ok_sums (F : FnP K "sums" s_sums f fd) (fr : Fre mg) (gm : mg "sums" = some (.ref f))  :
    Cal P w K mg base "sums" 1 1 f_sums :=
  ⟨_, fd, _, (ok0_sums F fr ).cut, gm, F.kp, F.bindsN fun _ _ _ _ _ _ us hl => match us, hl with | [_], _ => rfl⟩
theorem sc_thresholds : FnScope N_thresholds ["count", "budget"] (defScope s_thresholds) := ⟨rfl, rfl, rfl, by decide +kernel, rfl, by decide +kernel, by decide +kernel⟩
theorem ok0_thresholds (F : FnP K "thresholds" s_thresholds f fd) (fr : Fre mg)  :
    FnG P w K mg base (L2.CX P w) 1 f fd ["count", "budget"] (spOf K mg 2 (runB 5 m_thresholds)) :=
  cal_of (k := 0) F sc_thresholds fun cdv A outer s H E b => by
    unfold m_thresholds
    exact (dss_cons (ds_set (i := 2) sc_thresholds.nd rfl (Or.inl rfl) (de_box (dn_lst da_nil)))
 (dss_cons (ds_for b.po rfl (di_range1 rfl fr.range_ (da_cons (de_var 0) da_nil)) (dg_name (i := 3) sc_thresholds.nd rfl (Or.inl rfl))
 (dss_cons (ds_set (i := 4) sc_thresholds.nd rfl (Or.inl rfl) (de_ifExp (dt_cmp (op_neA b.hu) os_ne (de_var 2) (de_new (dn_lst da_nil))) (de_ix ix_seq os_ix (de_var 2) (de_neg de_int)) de_int))
 (dss_cons (ds_expr (de_mt PySem.F.slot_list_append PySem.F.type_list_append mt_append ms_append (de_var 2) (da_cons (de_ifExp (dt_cmp op_gtA os_gt (de_var 3) de_int) (de_op op_addA os_add (de_op op_addA os_add (de_var 4) (de_var 1)) (de_op op_fdivW os_div (de_op op_subA os_sub (de_var 4) de_int) (de_var 3))) (de_var 1)) da_nil)))
 dss_nil)))
 (dss_cons (ds_ret (de_cty call_tupleD cs_tup rfl fr.tuple_ bo_tuple (da_cons (de_var 2) da_nil)))
 dss_nil)))
theorem ok_thresholds (F : FnP K "thresholds" s_thresholds f fd) (fr : Fre mg) (gm : mg "thresholds" = some (.ref f))  :
    Cal P w K mg base "thresholds" 1 2 f_thresholds :=
  ⟨_, fd, _, (ok0_thresholds F fr ).cut, gm, F.kp, F.bindsN fun _ _ _ _ _ _ us hl => match us, hl with | [_, _], _ => rfl⟩
theorem sc_gap : FnScope N_gap ["balances", "budget"] (defScope s_gap) := ⟨rfl, rfl, rfl, by decide +kernel, rfl, by decide +kernel, by decide +kernel⟩
theorem ok0_gap (F : FnP K "gap" s_gap f fd) (fr : Fre mg) (c_sums : Cal P w K mg base "sums" 1 1 f_sums) (c_thresholds : Cal P w K mg base "thresholds" 1 2 f_thresholds) :
    FnG P w K mg base (L2.CX P w) 2 f fd ["balances", "budget"] (spOf K mg 2 (runB 5 m_gap)) :=
  cal_of (k := 1) F sc_gap fun cdv A outer s H E b => by
    unfold m_gap
    exact (dss_cons (ds_for b.po rfl (di_enumZ rfl fr.enumerate_ rfl fr.zip_ (da_cons (de_callC b c_sums (da_cons (de_var 0) da_nil)) (da_cons (de_callC b c_thresholds (da_cons (de_cb cr_len cs_len rfl fr.len_ bo_len (da_cons (de_var 0) da_nil)) (da_cons (de_var 1) da_nil))) da_nil))) (dg_tup rfl (dgs_cons (dg_name (i := 2) sc_gap.nd rfl (Or.inl rfl)) (dgs_cons (dg_tup rfl (dgs_cons (dg_name (i := 3) sc_gap.nd rfl (Or.inl rfl)) (dgs_cons (dg_name (i := 4) sc_gap.nd rfl (Or.inl rfl)) (dgs_nil (fp := []))))) (dgs_nil (fp := [])))))
 (dss_cons (ds_if (dt_cmp (op_ltA b.hu) os_lt (de_var 3) (de_var 4))
 (dss_cons (ds_ret (de_tup (da_cons (de_op op_addA os_add (de_var 2) de_int) (da_cons (de_var 3) (da_cons (de_var 4) da_nil)))))
 dss_nil)
 dss_nil)
 dss_nil))
 (dss_cons (ds_ret de_non)
 dss_nil))
theorem ok_gap (F : FnP K "gap" s_gap f fd) (fr : Fre mg) (gm : mg "gap" = some (.ref f)) (c_sums : Cal P w K mg base "sums" 1 1 f_sums) (c_thresholds : Cal P w K mg base "thresholds" 1 2 f_thresholds) :
    Cal P w K mg base "gap" 2 2 f_gap :=
  ⟨_, fd, _, (ok0_gap F fr c_sums c_thresholds).cut, gm, F.kp, F.bindsN fun _ _ _ _ _ _ us hl => match us, hl with | [_, _], _ => rfl⟩
theorem sc_is_safe : FnScope N_is_safe ["balances", "budget"] (defScope s_is_safe) := ⟨rfl, rfl, rfl, by decide +kernel, rfl, by decide +kernel, by decide +kernel⟩
theorem ok0_is_safe (F : FnP K "is_safe" s_is_safe f fd) (fr : Fre mg) (c_gap : Cal P w K mg base "gap" 2 2 f_gap) :
    FnG P w K mg base (L2.CX P w) 3 f fd ["balances", "budget"] (spOf K mg 2 (runB 2 m_is_safe)) :=
  cal_of (k := 2) F sc_is_safe fun cdv A outer s H E b => by
    unfold m_is_safe
    exact (dss_cons (ds_ret (de_cmp op_isN os_isN (de_callC b c_gap (da_cons (de_var 0) (da_cons (de_var 1) da_nil))) de_non))
 dss_nil)
theorem ok_is_safe (F : FnP K "is_safe" s_is_safe f fd) (fr : Fre mg) (gm : mg "is_safe" = some (.ref f)) (c_gap : Cal P w K mg base "gap" 2 2 f_gap) :
    Cal P w K mg base "is_safe" 3 2 f_is_safe :=
  ⟨_, fd, _, (ok0_is_safe F fr c_gap).cut, gm, F.kp, F.bindsN fun _ _ _ _ _ _ us hl => match us, hl with | [_, _], _ => rfl⟩
theorem sc_good_grants : FnScope N_good_grants ["balances", "budget"] (defScope s_good_grants) := ⟨rfl, rfl, rfl, by decide +kernel, rfl, by decide +kernel, by decide +kernel⟩
theorem ok0_good_grants (F : FnP K "good_grants" s_good_grants f fd) (fr : Fre mg) (c_changed : Cal P w K mg base "changed" 1 3 f_changed) (c_is_safe : Cal P w K mg base "is_safe" 3 2 f_is_safe) :
    FnG P w K mg base (L2.CX P w) 4 f fd ["balances", "budget"] (spOf K mg 2 (runB 3 m_good_grants)) :=
  cal_of (k := 3) F sc_good_grants fun cdv A outer s H E b => by
    unfold m_good_grants
    exact (dss_cons (ds_ret (de_cty call_tupleD cs_tup rfl fr.tuple_ bo_tuple (da_cons (de_new (dn_comp (own := [("at", 2)]) (fp := [2]) rfl sc_good_grants.nd (di_range1 rfl fr.range_ (da_cons (de_cb cr_len cs_len rfl fr.len_ bo_len (da_cons (de_var 0) da_nil)) da_nil)) (show BlkOk N_good_grants (defScope s_good_grants) _ [("at", 2)] from ⟨rfl, by decide +kernel, by decide +kernel, by decide +kernel, by decide +kernel⟩) (by decide) (fun s H C cl ad => (dg_name (i := 2) sc_good_grants.nd rfl (Or.inl rfl))) (.one fun s H C cl ad => (dt_val (de_callC b.blk c_is_safe (da_cons (de_callC b.blk c_changed (da_cons (de_var 0) (da_cons (de_var 2) (da_cons (de_var 1) da_nil)))) (da_cons (de_var 1) da_nil))))) (fun s H C cl ad => (de_var 2)))) da_nil)))
 dss_nil)
theorem ok_good_grants (F : FnP K "good_grants" s_good_grants f fd) (fr : Fre mg) (gm : mg "good_grants" = some (.ref f)) (c_changed : Cal P w K mg base "changed" 1 3 f_changed) (c_is_safe : Cal P w K mg base "is_safe" 3 2 f_is_safe) :
    Cal P w K mg base "good_grants" 4 2 f_good_grants :=
  ⟨_, fd, _, (ok0_good_grants F fr c_changed c_is_safe).cut, gm, F.kp, F.bindsN fun _ _ _ _ _ _ us hl => match us, hl with | [_, _], _ => rfl⟩
theorem sc__law_after : FnScope N__law_after ["_law_balances", "_law_demand_here", "_law_sender", "_law_budget"] (defScope s__law_after) := ⟨rfl, rfl, rfl, by decide +kernel, rfl, by decide +kernel, by decide +kernel⟩
theorem ok0__law_after (F : FnP K "_law_after" s__law_after f fd) (fr : Fre mg)  :
    FnG P w K mg base (L2.CX P w) 1 f fd ["_law_balances", "_law_demand_here", "_law_sender", "_law_budget"] (spOf K mg 4 (runB 7 m__law_after)) :=
  cal_of (k := 0) F sc__law_after fun cdv A outer s H E b => by
    unfold m__law_after
    exact (dss_cons (ds_setLcB (own := [("_law_balance", 5), ("_law_amount", 6)]) (fp := [5, 6]) (i := 4) rfl sc__law_after.nd rfl rfl (di_zip rfl fr.zip_ (da_cons (de_var 0) (da_cons (de_var 1) da_nil))) (show BlkOk N__law_after (defScope s__law_after) _ [("_law_balance", 5), ("_law_amount", 6)] from ⟨rfl, by decide +kernel, by decide +kernel, by decide +kernel, by decide +kernel⟩) (by decide) (fun s H C cl ad => (dg_tup rfl (dgs_cons (dg_name (i := 5) sc__law_after.nd rfl (Or.inl rfl)) (dgs_cons (dg_name (i := 6) sc__law_after.nd rfl (Or.inl rfl)) (dgs_nil (fp := [])))))) .nil (fun s H C cl ad => (de_op op_subA os_sub (de_var 5) (de_var 6))))
 (dss_cons (ds_asg (de_op op_addA os_add (de_ix ix_seq os_ix (de_var 4) (de_var 2)) (de_var 3)) (dg_sub (W := W0) (fp := []) (de_var 4) (de_var 2)))
 (dss_cons (ds_ret (de_cty call_tupleD cs_tup rfl fr.tuple_ bo_tuple (da_cons (de_var 4) da_nil)))
 dss_nil)))
theorem ok__law_after (F : FnP K "_law_after" s__law_after f fd) (fr : Fre mg) (gm : mg "_law_after" = some (.ref f))  :
    Cal P w K mg base "_law_after" 1 4 f__law_after :=
  ⟨_, fd, _, (ok0__law_after F fr ).cut, gm, F.kp, F.bindsN fun _ _ _ _ _ _ us hl => match us, hl with | [_, _, _, _], _ => rfl⟩
theorem sc_law : FnScope N_law ["_law_script"] (defScope s_law) := ⟨rfl, rfl, rfl, by decide +kernel, rfl, by decide +kernel, by decide +kernel⟩
theorem ok0_law (F : FnP K "law" s_law f fd) (fr : Fre mg) (c__law_gap : Cal P w K mg base "_law_gap" 2 2 f__law_gap) (c_is_safe : Cal P w K mg base "is_safe" 3 2 f_is_safe) (c_good_grants : Cal P w K mg base "good_grants" 4 2 f_good_grants) (c__law_after : Cal P w K mg base "_law_after" 1 4 f__law_after) (c_served : Cal P w K mg base "served" 4 3 f_served) (c__law_wish : Cal P w K mg base "_law_wish" 4 4 f__law_wish) (c__law_safe_ones : Cal P w K mg base "_law_safe_ones" 4 3 f__law_safe_ones) (c__law_take : Cal P w K mg base "_law_take" 1 2 f__law_take) (c__law_hand : Cal P w K mg base "_law_hand" 1 2 f__law_hand) :
    FnG P w K mg base (L2.CX P w) 5 f fd ["_law_script"] (spOf K mg 1 (runB 13 m_law)) :=
  cal_of (k := 4) F sc_law fun cdv A outer s H E b => by
    unfold m_law
    exact (dss_cons (ds_for b.po rfl (di_range1 rfl fr.range_ (da_cons (de_cb (cr_maxA rfl) cs_max rfl fr.max_ bo_max (da_cons de_int (da_cons (de_cb (cr_minA rfl) cs_min rfl fr.min_ bo_min (da_cons de_int (da_cons (de_cb cr_len cs_len rfl fr.len_ bo_len (da_cons (de_var 0) da_nil)) da_nil))) da_nil))) da_nil)) (dg_name (i := 1) sc_law.nd rfl (Or.inl rfl))
 (dss_cons (ds_set (i := 2) sc_law.nd rfl (Or.inl rfl) (de_callC b c__law_hand (da_cons (de_var 0) (da_cons (de_var 1) da_nil))))
 (dss_cons (ds_par (i := 3) (j := 4) rfl sc_law.nd rfl rfl (by decide) rfl rfl (da_cons (de_op op_addA os_add de_int (de_callC b c__law_take (da_cons (de_var 2) (da_cons de_int da_nil)))) (da_cons (de_op op_addA os_add de_int (de_callC b c__law_take (da_cons (de_var 2) (da_cons de_int da_nil)))) da_nil)) rfl)
 (dss_cons (ds_set (i := 5) sc_law.nd rfl (Or.inl rfl) (de_callC b c__law_safe_ones (da_cons (de_var 2) (da_cons (de_var 3) (da_cons (de_var 4) da_nil)))))
 (dss_cons (ds_for b.po rfl (di_range1 rfl fr.range_ (da_cons de_int da_nil)) (dg_name (i := 6) sc_law.nd rfl (Or.inl rfl))
 (dss_cons (ds_set (i := 7) sc_law.nd rfl (Or.inl rfl) (de_callC b c__law_wish (da_cons (de_var 2) (da_cons (de_var 5) (da_cons (de_var 4) (da_cons (de_var 6) da_nil))))))
 (dss_cons (ds_asg (de_callC b c_served (da_cons (de_var 5) (da_cons (de_var 4) (da_cons (de_tup (da_cons (de_var 7) da_nil)) da_nil)))) (dg_tup rfl (dgs_cons (dg_name (i := 8) sc_law.nd rfl (Or.inl rfl)) (dgs_cons (dg_name (i := 9) sc_law.nd rfl (Or.inl rfl)) (dgs_nil (fp := []))))))
 (dss_cons (ds_if (dt_w (dw_or (dt_cmp (op_neA b.hu) os_ne (de_cb cr_len cs_len rfl fr.len_ bo_len (da_cons (de_var 8) da_nil)) de_int) (dw_or1 (dt_cmp (op_neA b.hu) os_ne (de_var 9) (de_callC b c__law_after (da_cons (de_var 5) (da_cons (de_var 7) (da_cons (de_ix ix_seq os_ix (de_var 8) de_int) (da_cons (de_var 4) da_nil)))))))))
 (dss_cons (ds_ret de_bl)
 dss_nil)
 dss_nil)
 (dss_cons (ds_set (i := 10) sc_law.nd rfl (Or.inl rfl) (de_cty call_tupleD cs_tup rfl fr.tuple_ bo_tuple (da_cons (de_new (dn_comp (own := [("_law_balance", 11), ("_law_amount", 12)]) (fp := [11, 12]) rfl sc_law.nd (di_zip rfl fr.zip_ (da_cons (de_var 5) (da_cons (de_var 7) da_nil))) (show BlkOk N_law (defScope s_law) _ [("_law_balance", 11), ("_law_amount", 12)] from ⟨rfl, by decide +kernel, by decide +kernel, by decide +kernel, by decide +kernel⟩) (by decide) (fun s H C cl ad => (dg_tup rfl (dgs_cons (dg_name (i := 11) sc_law.nd rfl (Or.inl rfl)) (dgs_cons (dg_name (i := 12) sc_law.nd rfl (Or.inl rfl)) (dgs_nil (fp := [])))))) .nil (fun s H C cl ad => (de_op op_subA os_sub (de_var 11) (de_var 12))))) da_nil)))
 (dss_cons (ds_if (dt_cmp (op_notInA b.hu65) os_notIn (de_ix ix_seq os_ix (de_var 8) de_int) (de_callC b c_good_grants (da_cons (de_var 10) (da_cons (de_var 4) da_nil))))
 (dss_cons (ds_ret de_bl)
 dss_nil)
 dss_nil)
 (dss_cons (ds_if (dt_w (dw_or (dt_cmp op_notN os_notN (de_callC b c__law_gap (da_cons (de_var 9) (da_cons (de_var 4) da_nil))) de_non) (dw_or1 (dt_cmp op_notB os_notB (de_callC b c_is_safe (da_cons (de_var 9) (da_cons (de_var 4) da_nil))) de_bl))))
 (dss_cons (ds_ret de_bl)
 dss_nil)
 dss_nil)
 (dss_cons (ds_set (i := 5) sc_law.nd rfl (Or.inl rfl) (de_var 9))
 dss_nil))))))))
 dss_nil)))))
 (dss_cons (ds_ret de_bl)
 dss_nil))
end
/-! ### the head -/
theorem sci_Stall : FnScope ["self", "value"] ["self", "value"] (defScope si_Stall) := ⟨rfl, rfl, rfl, by decide +kernel, rfl, by decide +kernel, by decide +kernel⟩
theorem rs_Stall {P : Program} {w : World} {K : PySem.W.Frag} {mg : Str → Option Value} {base : Heap} {fd : FuncData} (xc : ExC K mg (["Stall"] : List Str)) (F : FunD K "__init__" "Stall.__init__" (defArgs si_Stall) (defBody si_Stall) (defScope si_Stall) [] [] (iAd K "Stall") fd) : Rs1 P w K mg base "Stall" :=
  rs1_of xc (by decide +kernel) F sci_Stall (fun cdv A outer s H E => (pss_cons (ps_expr (pe_ceinit rfl xc.ce (pa_cons (pe_var (i := 0) rfl (.inl rfl)) (pa_cons pe_str pa_nil)))) (pss_one (ps_ost (pe_var (i := 0) rfl (.inl rfl)) (pe_var (i := 1) rfl (.inl rfl)))))) fun _ _ _ _ _ _ us hl => match us, hl with | [_, _], _ => rfl
theorem facts {P : Program} {w : World} {K : PySem.W.Frag} {h : Heap} {mg : Str → Option Value} {f : Addr} (X : K.In h) (G : h.Ns mainGlobals mg) (hfa : mg ("law" : Str) = some (.ref f)) (c0 : SaysL fa fn (fun K => (exB (["Stall"] : List Str) K && lamB K "_law_levelling")) h K) :
    ∃ fd : FuncData, (∀ (s : Shared) (v : Value), BindsTo s fd ⟨[v], []⟩ [("_law_script", v)]) ∧ ∀ base : Heap, K.In base → base.Ns mainGlobals mg → TbB K mg base → FnG P w K mg base (L2.CX P w) 5 f fd ["_law_script"] (spOf K mg 1 f_law) := by
  have c := c0.d
  have e0 := c0.e
  have x0 : exB (["Stall"] : List Str) K = true := (Bool.and_eq_true_iff.mp e0).1
  replace e0 := (Bool.and_eq_true_iff.mp e0).2
  have x1 : lamB K "_law_levelling" = true := e0
  have lm__law_levelling := lamB_ok x1
  obtain ⟨fd__law_hand, F__law_hand⟩ := c.def_ 0 (d := d__law_hand) rfl
  obtain ⟨fd__law_take, F__law_take⟩ := c.def_ 1 (d := d__law_take) rfl
  obtain ⟨fd__law_mixed, F__law_mixed⟩ := c.def_ 2 (d := d__law_mixed) rfl
  obtain ⟨fd__law_rows, F__law_rows⟩ := c.def_ 3 (d := d__law_rows) rfl
  obtain ⟨fd__law_of, F__law_of⟩ := c.def_ 4 (d := d__law_of) rfl
  obtain ⟨fd__law_near, F__law_near⟩ := c.def_ 5 (d := d__law_near) rfl
  obtain ⟨fd__law_gap, F__law_gap⟩ := c.def_ 6 (d := d__law_gap) rfl
  obtain ⟨fd__law_safe_ones, F__law_safe_ones⟩ := c.def_ 7 (d := d__law_safe_ones) rfl
  obtain ⟨fd__law_demand, F__law_demand⟩ := c.def_ 8 (d := d__law_demand) rfl
  obtain ⟨fd__law_levelling, F__law_levelling⟩ := c.def_ 9 (d := d__law_levelling) rfl
  obtain ⟨fd__law_wish, F__law_wish⟩ := c.def_ 10 (d := d__law_wish) rfl
  obtain ⟨fd_stalled, F_stalled⟩ := c.def_ 11 (d := d_stalled) rfl
  obtain ⟨fd_less_demand, F_less_demand⟩ := c.def_ 12 (d := d_less_demand) rfl
  obtain ⟨fd_changed, F_changed⟩ := c.def_ 13 (d := d_changed) rfl
  obtain ⟨fd_best_grant, F_best_grant⟩ := c.def_ 14 (d := d_best_grant) rfl
  obtain ⟨fd_served, F_served⟩ := c.def_ 15 (d := d_served) rfl
  obtain ⟨fd_sums, F_sums⟩ := c.def_ 16 (d := d_sums) rfl
  obtain ⟨fd_thresholds, F_thresholds⟩ := c.def_ 17 (d := d_thresholds) rfl
  obtain ⟨fd_gap, F_gap⟩ := c.def_ 18 (d := d_gap) rfl
  obtain ⟨fd_is_safe, F_is_safe⟩ := c.def_ 19 (d := d_is_safe) rfl
  obtain ⟨fd_good_grants, F_good_grants⟩ := c.def_ 20 (d := d_good_grants) rfl
  obtain ⟨fd__law_after, F__law_after⟩ := c.def_ 21 (d := d__law_after) rfl
  obtain ⟨fd_law, F_law⟩ := c.def_ 22 (d := d_law) rfl
  have xc := exC_of X G x0
  obtain ⟨fdi_Stall, Fi_Stall⟩ := c.def_ 23 (d := di_Stall) rfl
  have g__law_hand := He.glo_ok X G (c.fact 0 (f := .glo "_law_hand") rfl)
  have g__law_take := He.glo_ok X G (c.fact 1 (f := .glo "_law_take") rfl)
  have g__law_mixed := He.glo_ok X G (c.fact 2 (f := .glo "_law_mixed") rfl)
  have g__law_rows := He.glo_ok X G (c.fact 3 (f := .glo "_law_rows") rfl)
  have g__law_of := He.glo_ok X G (c.fact 4 (f := .glo "_law_of") rfl)
  have g__law_near := He.glo_ok X G (c.fact 5 (f := .glo "_law_near") rfl)
  have g__law_gap := He.glo_ok X G (c.fact 6 (f := .glo "_law_gap") rfl)
  have g__law_safe_ones := He.glo_ok X G (c.fact 7 (f := .glo "_law_safe_ones") rfl)
  have g__law_demand := He.glo_ok X G (c.fact 8 (f := .glo "_law_demand") rfl)
  have g__law_levelling := He.glo_ok X G (c.fact 9 (f := .glo "_law_levelling") rfl)
  have g__law_wish := He.glo_ok X G (c.fact 10 (f := .glo "_law_wish") rfl)
  have g_stalled := He.glo_ok X G (c.fact 11 (f := .glo "stalled") rfl)
  have g_less_demand := He.glo_ok X G (c.fact 12 (f := .glo "less_demand") rfl)
  have g_changed := He.glo_ok X G (c.fact 13 (f := .glo "changed") rfl)
  have g_best_grant := He.glo_ok X G (c.fact 14 (f := .glo "best_grant") rfl)
  have g_served := He.glo_ok X G (c.fact 15 (f := .glo "served") rfl)
  have g_sums := He.glo_ok X G (c.fact 16 (f := .glo "sums") rfl)
  have g_thresholds := He.glo_ok X G (c.fact 17 (f := .glo "thresholds") rfl)
  have g_gap := He.glo_ok X G (c.fact 18 (f := .glo "gap") rfl)
  have g_is_safe := He.glo_ok X G (c.fact 19 (f := .glo "is_safe") rfl)
  have g_good_grants := He.glo_ok X G (c.fact 20 (f := .glo "good_grants") rfl)
  have g__law_after := He.glo_ok X G (c.fact 21 (f := .glo "_law_after") rfl)
  have g_law := He.glo_ok X G (c.fact 22 (f := .glo "law") rfl)
  have fr : Fre mg := ⟨He.free_ok X G (c.fact 23 (f := .free "abs") rfl), He.free_ok X G (c.fact 24 (f := .free "int") rfl), He.free_ok X G (c.fact 25 (f := .free "len") rfl), He.free_ok X G (c.fact 26 (f := .free "list") rfl), He.free_ok X G (c.fact 27 (f := .free "tuple") rfl), He.free_ok X G (c.fact 28 (f := .free "range") rfl), He.free_ok X G (c.fact 29 (f := .free "max") rfl), He.free_ok X G (c.fact 30 (f := .free "sorted") rfl), He.free_ok X G (c.fact 31 (f := .free "enumerate") rfl), He.free_ok X G (c.fact 32 (f := .free "zip") rfl), He.free_ok X G (c.fact 33 (f := .free "min") rfl), He.free_ok X G (c.fact 34 (f := .free "dict") rfl)⟩
  have e := hfa.symm.trans g_law
  cases e
  have bb := FunD.bindsA (ps := ["_law_script"]) F_law fun _ _ _ _ _ _ us hl => match us, hl with | [_], _ => rfl
  refine ⟨fd_law, fun s v => bb s [v] rfl, fun base _ _ tb => ?_⟩
  have r_Stall := rs_Stall (P := P) (w := w) (base := base) xc Fi_Stall
  have c__law_hand := ok__law_hand (P := P) (w := w) (base := base) F__law_hand fr g__law_hand 
  have c__law_take := ok__law_take (P := P) (w := w) (base := base) F__law_take fr g__law_take 
  have c__law_mixed := ok__law_mixed (P := P) (w := w) (base := base) F__law_mixed fr g__law_mixed c__law_take
  have c__law_rows := ok__law_rows (P := P) (w := w) (base := base) F__law_rows fr g__law_rows 
  have c__law_of := ok__law_of (P := P) (w := w) (base := base) F__law_of fr g__law_of c__law_take
  have c__law_near := ok__law_near (P := P) (w := w) (base := base) F__law_near fr g__law_near c__law_of c__law_take c__law_mixed c__law_rows
  have c__law_gap := ok__law_gap (P := P) (w := w) (base := base) F__law_gap fr g__law_gap c__law_rows
  have c__law_safe_ones := ok__law_safe_ones (P := P) (w := w) (base := base) F__law_safe_ones fr g__law_safe_ones c__law_gap c__law_take c__law_near
  have c__law_demand := ok__law_demand (P := P) (w := w) (base := base) F__law_demand fr g__law_demand c__law_take
  have c__law_levelling := ok__law_levelling (P := P) (w := w) (base := base) F__law_levelling fr g__law_levelling tb lm__law_levelling
  have c__law_wish := ok__law_wish (P := P) (w := w) (base := base) F__law_wish fr g__law_wish c__law_demand c__law_take c__law_levelling
  have c_stalled := ok_stalled (P := P) (w := w) (base := base) F_stalled fr g_stalled 
  have c_less_demand := ok_less_demand (P := P) (w := w) (base := base) F_less_demand fr g_less_demand c_stalled r_Stall
  have c_changed := ok_changed (P := P) (w := w) (base := base) F_changed fr g_changed 
  have c_best_grant := ok_best_grant (P := P) (w := w) (base := base) F_best_grant fr g_best_grant 
  have c_served := ok_served (P := P) (w := w) (base := base) F_served fr g_served c_changed c_best_grant c_less_demand c_stalled
  have c_sums := ok_sums (P := P) (w := w) (base := base) F_sums fr g_sums 
  have c_thresholds := ok_thresholds (P := P) (w := w) (base := base) F_thresholds fr g_thresholds 
  have c_gap := ok_gap (P := P) (w := w) (base := base) F_gap fr g_gap c_sums c_thresholds
  have c_is_safe := ok_is_safe (P := P) (w := w) (base := base) F_is_safe fr g_is_safe c_gap
  have c_good_grants := ok_good_grants (P := P) (w := w) (base := base) F_good_grants fr g_good_grants c_changed c_is_safe
  have c__law_after := ok__law_after (P := P) (w := w) (base := base) F__law_after fr g__law_after 
  exact ok0_law F_law fr c__law_gap c_is_safe c_good_grants c__law_after c_served c__law_wish c__law_safe_ones c__law_take c__law_hand
/-- the law, from what its def computes -/
theorem law_end (ok : LawOk 63 f_law) : PySem.Challenge.rw_creditfloor_k17_whole_safe_forever.Holds := by
  w_on; o_law
  refine HandSHeadRun.head_any (r := PySem.W.OpenLaw.row PySem.Challenge.rw_creditfloor_k17_whole_safe_forever) (q := PySem.W.view (PySem.W.OpenLaw.row PySem.Challenge.rw_creditfloor_k17_whole_safe_forever).prog [30]) (H := hk) (ob := ob) (M := 2460) (loose := loose) (d := HandSHeadRun.topDef (PySem.W.OpenLaw.row PySem.Challenge.rw_creditfloor_k17_whole_safe_forever).prog 30) (kwd := []) ob_eq
    (by kernel_rfl) (fun s => by kernel_rfl) run (by kernel_rfl) (by kernel_rfl) (by kernel_rfl) (by rfl) (by first | assumption | decide +kernel) (by decide +kernel) ⟨rfl, rfl, rfl, rfl, rfl, by decide +kernel⟩ ?hw ?hc
  case hw => w_witness2
  case hc =>
    refine walk_ofG (l := PySem.Challenge.rw_creditfloor_k17_whole_safe_forever) (n := 63) (k := 5) (x := "_law_script") (CX := fun w => L2.CX (PySem.Challenge.rw_creditfloor_k17_whole_safe_forever).prog w) rfl (by decide) (by kernel_rfl) ⟨rfl, by decide, by decide⟩ ok ?F (fun _ _ _ _ _ z => by obtain ⟨_, _, _, _, _, _, _, _, _, _, _, _, z⟩ := z; exact z)
    intro w mg fa h Y G hmg0
    obtain ⟨K, KX, c⟩ := Y
    have hmg : mg ("law" : PySem.Str) = some (.ref fa) := by
      have e : (HandSHeadRun.topDef (PySem.W.OpenLaw.row PySem.Challenge.rw_creditfloor_k17_whole_safe_forever).prog 30).name = ("law" : PySem.Str) := by kernel_rfl
      rw [← e]
      exact hmg0
    obtain ⟨fd, hb, hF⟩ := facts (P := (PySem.Challenge.rw_creditfloor_k17_whole_safe_forever).prog) (w := w) KX G hmg c
    exact ⟨K, fd, KX, c.t, hb, hF⟩
end Gw
-- Lk17
set_option Elab.async false
set_option linter.all false
set_option maxRecDepth 100000
set_option maxHeartbeats 2000000
namespace Gw
open PySem L2 PyProof.Rows PySem.Spec Mi Co Enc
local macro_rules | `(tactic| fail) => `(tactic| first
  | with_reducible refine wp_op ?_
  | ((with_reducible refine wp_var ?_); refine gs_rfl ?_)
  | with_reducible refine wp_c ?_
  | with_reducible refine wp_cons ?_
  | with_reducible refine wp_nil ?_
  | with_reducible refine wp_cb ?_
  | with_reducible refine wp_cbn ?_
  | with_reducible refine wp_tst ?_
  | with_reducible refine wp_if ?_
  | with_reducible refine wp_un ?_
  | with_reducible refine wp_new ?_
  | with_reducible refine wp_box ?_
  | with_reducible refine wp_and ?_
  | with_reducible refine wp_or ?_
  | with_reducible refine wp_not ?_
  | with_reducible refine wp_sl ?_
  | with_reducible refine wp_call ?_
  | with_reducible refine wp_tup ?_
  | with_reducible refine wp_lst ?_
  | with_reducible refine wp_part ?_
  | with_reducible refine wp_mt ?_
  | with_reducible refine wp_iter ?_
  | with_reducible refine wp_range1 ?_
  | with_reducible refine wp_range2 ?_
  | with_reducible refine and_sz (by exact Nat.le_of_ble_eq_true rfl) ?_
  | with_reducible refine ws_seq ?_
  | with_reducible refine ws_set ?_
  | with_reducible refine ws_if ?_
  | with_reducible refine ws_ret ?_
  | with_reducible refine ws_brk ?_
  | with_reducible refine ws_cont ?_
  | with_reducible refine ws_drop ?_
  | with_reducible refine ws_nil ?_
  | with_reducible refine ws_par ?_
  | with_reducible refine ws_asg ?_
  | with_reducible refine tg_tt2 ?_
  | with_reducible refine tg_tup2 ?_
  | with_reducible refine tg_st ?_
  | with_reducible refine tg_n ?_
  | with_reducible refine g_add ?_
  | with_reducible refine g_sub ?_
  | with_reducible refine g_neg ?_
  | with_reducible refine g_lt ?_
  | with_reducible refine g_gt ?_
  | with_reducible refine g_le ?_
  | with_reducible refine g_ge ?_
  | with_reducible refine g_eq ?_
  | with_reducible refine g_ne ?_
  | with_reducible refine g_eqSS ?_
  | with_reducible refine g_neSS ?_
  | with_reducible refine g_eqS ?_
  | with_reducible refine g_neS ?_
  | with_reducible refine g_tst ?_
  | with_reducible refine g_abs ?_
  | with_reducible refine g_int ?_
  | with_reducible refine g_intB ?_
  | with_reducible refine g_max2 ?_
  | with_reducible refine g_min2 ?_
  | with_reducible refine g_pow (by decide) ?_
  | with_reducible refine g_mod (by first | decide | omega) ?_
  | with_reducible refine g_mul (by first | decide | exact mulOk_of (k := 60) (m := 60) (by omega) (by omega) (by omega) (by omega)) ?_
  | with_reducible refine g_div (by first | decide | exact divOk_of (m := 60) (by omega) (by omega)) ?_
  | ((with_reducible apply g_ix); (first | assumption | exact rfl); (first | assumption | exact rfl))
  | with_reducible refine g_lenT ?_
  | with_reducible refine g_lenL ?_
  | ((with_reducible apply g_len); (first | assumption | exact rfl))
  | with_reducible refine g_tupL ?_
  | with_reducible refine g_tupT ?_
  | with_reducible refine g_sumT ?_
  | with_reducible refine g_sumL ?_
  | with_reducible refine g_append ?_ ?_
  | ((with_reducible apply g_addT); (first | assumption | exact rfl); (first | assumption | exact rfl); (simp <;> omega))
  | with_reducible refine g_slT_to ?_
  | with_reducible refine g_slT_from ?_
  | with_reducible refine g_slL_to ?_
  | with_reducible refine g_slL_from ?_
  | with_reducible refine wp_idx ?_
  | with_reducible refine g_isN' ?_
  | with_reducible refine g_notN' ?_
  | with_reducible refine ex_par ?_
  | with_reducible refine ex_par3 ?_
  | with_reducible refine wp_andV ?_
  | with_reducible refine wp_chain ?_
  | ((with_reducible apply g_isi); (exact rfl))
  | with_reducible refine g_neB ?_
  | with_reducible refine g_eqB ?_
  | with_reducible refine wp_orV ?_
  | with_reducible refine wp_notV ?_
  | with_reducible refine ex_bl ?_
  | with_reducible refine ex_int ?_
  | with_reducible refine ex_int1 ?_
  | with_reducible refine g_mulT (by omega) ?_
  | with_reducible refine g_inT ?_
  | with_reducible refine g_inL ?_
  | with_reducible refine g_ninT ?_
  | with_reducible refine if_ntt ?_
  | with_reducible refine if_nff ?_
  | with_reducible refine if_ff ?_
  | with_reducible refine or_ff ?_
  | with_reducible refine or_tt ?_
  | with_reducible refine or_ntt ?_
  | with_reducible refine or_nff ?_
  | with_reducible refine if_tt ?_
  | with_reducible refine g_listT ?_
  | with_reducible exact True.intro
  | with_reducible exact And.intro rfl rfl
  | dsimp only [List.set])
section
variable {h hp h1 h2 : Hs} {d z : D} {n k c i : Nat} {T T' b R : Int} {ns ms : List Int} {env : Mi.Env} {me ma mb : M D} {ks : List Key} {xs : List D} {kp kq : List (Int × Int)}
/-! ### a dict of ints at ints, its levelling -/
theorem argBest_le (bt : Nat → Nat → Bool) : ∀ k, argBest bt k ≤ k
  | 0 => Nat.le_refl _
  | k + 1 => by
    unfold argBest
    have := argBest_le bt k
    split <;> omega
theorem wp_maxK {Q : D → Hs → Prop} (q : Wp me env hp fun x h1 => ∃ (ns : List Int) (n : Nat) (ks : List Key) (xs : List D), x = .lst (ns.map .int) ∧ env[i]? = some (some (.loc n)) ∧ h1[n]? = some (some (.dic ks xs)) ∧ 0 < ns.length ∧ (∀ a ∈ ns, ∃ z, getK ks xs (.inl a) = some (.int z)) ∧ ∀ a ∈ ns, Q (.int a) h1) : Wp (mMaxK i me) env hp Q := by
  obtain ⟨_, h1, e1, ns, n, ks, xs, rfl, e2, e3, h0, ha, q⟩ := q
  have lt : argBest (bestD ks xs ns) (ns.length - 1) < ns.length := by
    have := argBest_le (bestD ks xs ns) (ns.length - 1)
    omega
  refine ⟨_, _, ?_, q (ns.getD (argBest (bestD ks xs ns) (ns.length - 1)) 0) ?_⟩
  · unfold mMaxK
    rw [e1]
    dsimp only
    rw [Mi.ints_map, e2]
    dsimp only
    rw [e3]
    dsimp only
    refine if_pos ⟨h0, ?_⟩
    rw [List.all_eq_true]
    intro a hm
    obtain ⟨z, e⟩ := ha a hm
    rw [e]
  · rw [List.getD_eq_getElem?_getD, List.getElem?_eq_getElem lt]
    exact List.getElem_mem lt
theorem wp_dictK {Q : D → Hs → Prop} (q : Wp ma env hp fun x h1 => ∃ xs mm, look h1 x = .lst xs ∧ prsK xs = some mm ∧ Q (.loc h1.length) (h1 ++ [some (dicOb (mergeD [] mm))])) : Wp (mDictK ma) env hp Q := by
  obtain ⟨x, h1, e1, xs, mm, e2, e3, q⟩ := q
  refine ⟨_, _, ?_, q⟩
  unfold mDictK
  rw [e1]
  dsimp only
  rw [e2]
  dsimp only
  rw [e3]
theorem g_sortK {Q : List D → Prop} (e : h[n]? = some (some (.dic (ns.map Sum.inl) xs))) (hl : ns.length < 64) (q : Q ((sortI ns).map .int)) : Gt (gSortK h [.loc n]) Q := by
  refine ⟨_, ?_, q⟩
  have l : look h (.loc n) = .dic (ns.map Sum.inl) xs := by simp [look, e]
  unfold gSortK dicR
  dsimp only
  rw [l]
  dsimp only
  rw [intK_map]
  dsimp only
  rw [if_pos hl]
theorem g_kG {Q : D → Prop} {a : Int} (e : h[n]? = some (some (.dic ks xs))) (g : getK ks xs (.inl a) = some d) (q : Q d) : Gt (gKG h (.loc n) (.int a)) Q := by
  refine ⟨_, ?_, q⟩
  have l : look h (.loc n) = .dic ks xs := by simp [look, e]
  unfold gKG dicR keyK
  rw [l]
  exact g
theorem tg_kst {Q : Mi.Env → Hs → Prop} (q : Wp ma env hp fun x h1 => Wp mb env h1 fun y h2 => ∃ n ks xs a, x = .loc n ∧ y = .int a ∧ h2[n]? = some (some (.dic ks xs)) ∧ (ks.zip xs).length ≤ 1000000 ∧ Q env (h2.set n (some (dicOb (putKD (ks.zip xs) (.inl a) d))))) : Tg (gKSt ma mb) d env hp Q := by
  obtain ⟨_, h1, e1, _, h2, e2, n, ks, xs, a, rfl, rfl, h3, h4, q⟩ := q
  refine ⟨_, _, ?_, q⟩
  unfold gKSt
  rw [e1]; dsimp only; rw [e2]; dsimp only
  unfold dicM keyK
  dsimp only
  rw [h3]
  dsimp only [look_int]
  rw [if_pos h4]
def enK (kp : List (Int × Int)) : List (Key × D) := kp.map fun p => (.inl p.1, .int p.2)
theorem enK_keys : (enK kp).map (·.1) = (kp.map (·.1)).map Sum.inl := by unfold enK; rw [List.map_map, List.map_map]; rfl
theorem enK_zip : ((enK kp).map (·.1)).zip ((enK kp).map (·.2)) = enK kp := by
  induction enK kp with
  | nil => rfl
  | cons p l ih => rw [List.map_cons, List.map_cons, List.zip_cons_cons, ih]
theorem prsK_en : ∀ kp : List (Int × Int), prsK (kp.map encP) = some (enK kp)
  | [] => rfl
  | p :: kp => by
    rw [List.map_cons]
    unfold prsK
    rw [prsK_en kp]
    rfl
theorem getK_en : ∀ {kp : List (Int × Int)} {a : Int}, a ∈ kp.map (·.1) → ∃ z, getK ((enK kp).map (·.1)) ((enK kp).map (·.2)) (.inl a) = some (.int z)
  | p :: kp, a, h => by
    show ∃ z, getK (Sum.inl p.1 :: (enK kp).map (·.1)) (D.int p.2 :: (enK kp).map (·.2)) (.inl a) = some (.int z)
    unfold getK
    by_cases e : (Sum.inl p.1 : Key) = .inl a
    · rw [if_pos e]; exact ⟨_, rfl⟩
    · rw [if_neg e]
      refine getK_en ?_
      rcases List.mem_cons.mp h with h | h
      · exact absurd (by rw [h]) e
      · exact h
theorem put_en (kp : List (Int × Int)) (a z : Int) : ∃ kq, putKD (enK kp) (.inl a) (.int z) = enK kq ∧ ((a ∈ kp.map (·.1) ∧ kq.map (·.1) = kp.map (·.1)) ∨ (a ∉ kp.map (·.1) ∧ kq.map (·.1) = kp.map (·.1) ++ [a])) := by
  unfold putKD
  split
  · rename_i h
    refine ⟨kp.map fun p => if p.1 = a then (p.1, z) else p, ?_, .inl ⟨?_, ?_⟩⟩
    · unfold enK
      rw [List.map_map, List.map_map]
      refine List.map_congr_left fun p _ => ?_
      simp only [Function.comp]
      by_cases e : p.1 = a
      · simp [e]
      · have : (Sum.inl p.1 : Key) ≠ .inl a := fun h => e (by cases h; rfl)
        simp [e]
    · rw [List.any_eq_true] at h
      obtain ⟨e, he, h⟩ := h
      unfold enK at he
      obtain ⟨p, hp, rfl⟩ := List.mem_map.mp he
      have h := of_decide_eq_true h
      exact List.mem_map.mpr ⟨p, hp, by cases h; rfl⟩
    · rw [List.map_map]
      refine List.map_congr_left fun p _ => ?_
      simp only [Function.comp]
      split <;> rfl
  · rename_i h
    refine ⟨kp ++ [(a, z)], by unfold enK; simp, .inr ⟨fun m => h ?_, by simp⟩⟩
    obtain ⟨p, hp, rfl⟩ := List.mem_map.mp m
    exact List.any_eq_true.mpr ⟨(.inl p.1, .int p.2), List.mem_map.mpr ⟨p, hp, rfl⟩, decide_eq_true rfl⟩
theorem merge_en : ∀ (kp more : List (Int × Int)), ∃ kq, mergeD (enK kp) (enK more) = enK kq ∧ (∀ a ∈ kq.map (·.1), a ∈ kp.map (·.1) ∨ a ∈ more.map (·.1)) ∧ kq.length ≤ kp.length + more.length ∧ (0 < kp.length + more.length → 0 < kq.length)
  | kp, [] => ⟨kp, rfl, fun a h => .inl h, by simp, by simp⟩
  | kp, p :: more => by
    obtain ⟨k1, e1, h1⟩ := put_en kp p.1 p.2
    obtain ⟨kq, e2, h2, h3, h4⟩ := merge_en k1 more
    have l1 : (k1.map (·.1)).length ≤ kp.length + 1 ∧ 0 < (k1.map (·.1)).length := by
      rcases h1 with ⟨m, h1⟩ | ⟨_, h1⟩
      · rw [h1]
        have := List.length_pos_of_mem m
        simp at this ⊢
        omega
      · rw [h1]; simp
    rw [List.length_map] at l1
    refine ⟨kq, ?_, fun a ha => ?_, by rw [List.length_cons]; omega, fun _ => h4 (by omega)⟩
    · show mergeD (putKD (enK kp) (.inl p.1) (.int p.2)) (enK more) = _
      rw [e1, e2]
    · rcases h2 a ha with h | h
      · rcases h1 with ⟨m, h1⟩ | ⟨_, h1⟩
        · rw [h1] at h; exact .inl h
        · rw [h1] at h
          rcases List.mem_append.mp h with h | h
          · exact .inl h
          · exact .inr (by simp at h; simp [h])
      · exact .inr (by rw [List.map_cons]; exact List.mem_cons_of_mem _ h)
theorem lev_sp (hk : 1 ≤ k) (hne : ns ≠ []) (hl : ns.length < 60) (hb : 0 ≤ b) (hb2 : b < 1000) :
    Fs f__law_levelling [.tup (ns.map .int), .int b, .int (k : Int)] hp fun d h => ∃ ms : List Int, d = .tup (ms.map .int) ∧ ms.length = ns.length ∧ (∀ i, i < ns.length → 0 ≤ at0 ms i) ∧ ms.sum ≤ b ∧ h = hp := by
  refine fs_cut (fs_run [some (.tup (ns.map .int)), some (.int b), some (.int (k : Int)), none, none, none, none, none, none] rfl ?_)
  unfold m__law_levelling
  have sl : sizeLine = 2 ^ 24 := rfl
  repeat fail
  refine wp_compA ns.zipIdx (fun a => .itm [.int (a.2 : Int), .int a.1]) (fun a => encP (a.1, (a.2 : Int))) (wp_enum1 ?_)
  repeat fail
  refine ⟨_, _, rfl, rfl, enum0I, trivial, by simp; omega, fun a ha => ?_, ?_⟩
  · refine tg_tup2 (tg_n (tg_n ⟨rfl, ?_⟩))
    dsimp only [wipeE, List.set]
    repeat fail
  rw [show List.map (fun a : Int × Nat => encP (a.1, (a.2 : Int))) ns.zipIdx = (prs ns).map encP by unfold prs; rw [List.map_map]; rfl]
  repeat fail
  refine ⟨(sortP (prs ns)).map encP, by unfold gSortP; dsimp only [look]; rw [pairs_map], ?_⟩
  repeat fail
  have tl : (smT ns k).length ≤ ns.length := by unfold smT; rw [List.length_take, sortP_len, prs_range]; simp; omega
  have t0 : 0 < (smT ns k).length := by
    unfold smT; rw [List.length_take, sortP_len, prs_range]
    have := List.length_pos_iff.mpr hne
    simp; omega
  refine wp_dictK ?_
  repeat fail
  refine wp_compA (smT ns k) encP (fun a => encP (a.2, a.1)) ?_
  repeat fail
  refine ⟨_, rfl, rfl, trivial, by omega, fun a ha => ?_, ?_⟩
  · show Tg _ (.tup [.int _, .int _]) _ _ _
    refine tg_tt2 (tg_n (tg_n ⟨rfl, ?_⟩))
    dsimp only [wipeE, List.set]
    repeat fail
  obtain ⟨kq, m1, m2, m3, m4⟩ := merge_en [] ((smT ns k).map fun a => (a.2, a.1))
  rw [List.length_map] at m3 m4
  have m5 : ∀ a : Int, a ∈ kq.map (·.1) → 0 ≤ a ∧ a < ns.length := fun a ha => by
    rcases m2 a ha with h | h
    · cases h
    · obtain ⟨p, g1, rfl⟩ := List.mem_map.mp h
      obtain ⟨p, g2, rfl⟩ := List.mem_map.mp g1
      obtain ⟨i, hi, e⟩ := prs_mem.mp ((sortP_perm _).mem_iff.mp (List.mem_of_mem_take g2))
      subst e
      simp; omega
  refine ⟨((smT ns k).map fun a => (a.2, a.1)).map encP, enK ((smT ns k).map fun a => (a.2, a.1)), by rw [List.map_map]; rfl, prsK_en _, ?_⟩
  rw [show mergeD [] (enK ((smT ns k).map fun a => (a.2, a.1))) = enK kq from m1]
  repeat fail
  refine wp_opN ?_
  repeat fail
  refine g_mulN (by omega) (by omega) ?_
  repeat fail
  refine ws_for ?_
  repeat fail
  refine ⟨⟨by omega, by omega⟩, fun q e h' => ∃ (kq : List (Int × Int)) (f : List Int) (y6 y7 : Option D), e = [some (.tup (ns.map .int)), some (.int b), some (.int (k : Int)), some (.lst (List.take k (List.map encP (sortP (prs ns))))), some (.loc hp.length), some (.loc (hp.length + 1)), y6, y7, none] ∧ h' = hp ++ [some (dicOb (enK kq)), some (.lst (f.map .int))] ∧ 0 < kq.length ∧ kq.length < 60 ∧ (∀ a : Int, a ∈ kq.map (·.1) → 0 ≤ a ∧ a < ns.length) ∧ f.length = ns.length ∧ (∀ i, i < ns.length → 0 ≤ at0 f i) ∧ f.sum = q, ?_, fun _ _ _ _ _ => trivial, ?_, ?_⟩
  · exact ⟨kq, List.replicate ns.length 0, none, none, by simp, by simp, by omega, by simp at m3; omega, m5, by simp, fun i hi => by unfold at0; rw [List.getD_eq_getElem?_getD, List.getElem?_replicate, if_pos hi]; exact Int.le_refl _, by rw [sum_rep0]; rfl⟩
  · rintro q x e h' hx ⟨kq, f, y6, y7, rfl, rfl, k0, k1, kr, fl, f0, fs⟩
    obtain ⟨hq, rfl⟩ := rng0N hx
    have a0 : (hp ++ [some (dicOb (enK kq)), some (Ob.lst (f.map D.int))])[hp.length]? = some (some (.dic ((kq.map (·.1)).map Sum.inl) ((enK kq).map (·.2)))) := by
      rw [List.getElem?_append_right (Nat.le_refl _), Nat.sub_self, ← enK_keys]; rfl
    have a1 : (hp ++ [some (dicOb (enK kq)), some (Ob.lst (f.map D.int))])[hp.length + 1]? = some (some (.lst (f.map D.int))) := by
      rw [List.getElem?_append_right (by omega), show hp.length + 1 - hp.length = 1 by omega]; rfl
    refine tg_n ?_
    repeat fail
    refine wp_maxK ?_
    repeat fail
    refine g_sortK a0 (by rw [List.length_map]; omega) ?_
    refine ⟨sortI (kq.map (·.1)), hp.length, _, _, rfl, rfl, a0, by rw [sortI_len, List.length_map]; exact k0, fun a ha => ?_, fun a ha => ?_⟩
    · have := getK_en (kp := kq) ((sortI_perm _).mem_iff.mp ha)
      rwa [enK_keys] at this
    have ha := (sortI_perm _).mem_iff.mp ha
    obtain ⟨c0, c1⟩ := kr a ha
    obtain ⟨z, hz⟩ := getK_en ha
    rw [enK_keys] at hz
    obtain ⟨j, rfl⟩ := Int.eq_ofNat_of_zero_le c0
    have hj : j < f.length := by omega
    repeat fail
    refine g_kG a0 hz ?_
    repeat fail
    refine tg_kst ?_
    repeat fail
    refine ⟨hp.length, _, _, _, rfl, rfl, a0, ?_, ?_⟩
    · rw [← enK_keys, enK_zip]; unfold enK; rw [List.length_map]; omega
    obtain ⟨kr', e1, e2⟩ := put_en kq (j : Int) (z - 1)
    have e2 : kr'.map (·.1) = kq.map (·.1) := by
      rcases e2 with ⟨_, e2⟩ | ⟨e2, _⟩
      · exact e2
      · exact absurd ha e2
    have l2 : kr'.length = kq.length := by have := congrArg List.length e2; simpa using this
    rw [← enK_keys, enK_zip, e1]
    have s1 : (hp ++ [some (dicOb (enK kq)), some (Ob.lst (f.map D.int))]).set hp.length (some (dicOb (enK kr'))) = hp ++ [some (dicOb (enK kr')), some (Ob.lst (f.map D.int))] := by
      rw [List.set_append_right _ _ (Nat.le_refl _), Nat.sub_self]; rfl
    rw [s1]
    have a2 : (hp ++ [some (dicOb (enK kr')), some (Ob.lst (f.map D.int))])[hp.length + 1]? = some (some (.lst (f.map D.int))) := by
      rw [List.getElem?_append_right (by omega), show hp.length + 1 - hp.length = 1 by omega]; rfl
    repeat fail
    refine g_ix (seqv_loc a2) (at_int hj) ?_
    repeat fail
    refine ⟨_, _, _, j, rfl, rfl, a2, by rw [List.length_map]; exact ixN_nat hj, ?_⟩
    rw [show (f.map D.int).set j (.int (at0 f j + 1)) = (chg f j 1).map .int by unfold chg; rw [List.map_set]]
    have s2 : (hp ++ [some (dicOb (enK kr')), some (Ob.lst (f.map D.int))]).set (hp.length + 1) (some (Ob.lst ((chg f j 1).map D.int))) = hp ++ [some (dicOb (enK kr')), some (Ob.lst ((chg f j 1).map D.int))] := by
      rw [List.set_append_right _ _ (by omega), show hp.length + 1 - hp.length = 1 by omega]; rfl
    rw [s2]
    repeat fail
    refine ⟨kr', chg f j 1, _, _, rfl, rfl, by omega, by omega, fun a ha => kr a (by rw [← e2]; exact ha), by rw [chg_len]; exact fl, fun i hi => ?_, by rw [chg_sum hj]; omega⟩
    rw [chg_at hj]
    have := f0 i hi
    split <;> omega
  · rintro e h' ⟨kq, f, y6, y7, rfl, rfl, k0, k1, kr, fl, f0, fs⟩
    repeat fail
    have a1 : (hp ++ [some (dicOb (enK kq)), some (Ob.lst (f.map D.int))])[hp.length + 1]? = some (some (.lst (f.map D.int))) := by
      rw [List.getElem?_append_right (by omega), show hp.length + 1 - hp.length = 1 by omega]; rfl
    refine g_tup (seqv_loc a1) ?_
    refine ⟨keepsB_app keepsB_refl (Nat.le_refl _), _, clo_tup _ _ _, f, rfl, fl, f0, ?_, List.take_left⟩
    rw [rngD_len] at fs
    omega
end
section
variable {hp : Hs} {n t : Nat} {T b : Int} {ns ms : List Int}
theorem wish_sp (hn : n < hp.length) (H : Hn hp n T) (hT : T < 2 ^ 40) (hne : ns ≠ []) (hl : ns.length < 60) (hb : 1 ≤ b) (hb2 : b < 1000) (ht : t < 1000) :
    Fs f__law_wish [.loc n, .tup (ns.map .int), .int b, .int (t : Int)] hp fun d h => ∃ ms : List Int, d = .tup (ms.map .int) ∧ ms.length = ns.length ∧ (∀ i, i < ns.length → 0 ≤ at0 ms i) ∧ ms.sum ≤ b ∧ Hn h n (T + 2 * b) ∧ Sm n hp h := by
  refine fs_cut (fs_run [some (.loc n), some (.tup (ns.map .int)), some (.int b), some (.int (t : Int)), none, none] rfl ?_)
  unfold m__law_wish
  have sl : sizeLine = 2 ^ 24 := rfl
  have l0 := List.length_pos_iff.mpr hne
  have fin : ∀ (h : Hs) (ms : List Int) (T' : Int), Bx n T' hp h [] → T' ≤ T + 2 * b → ms.length = ns.length → (∀ i, i < ns.length → 0 ≤ at0 ms i) → ms.sum ≤ b → keepsB hp.length hp h ∧ ∃ d', ice hp.length none h 8 (.tup (ms.map .int)) = some d' ∧ ∃ ms : List Int, d' = .tup (ms.map .int) ∧ ms.length = ns.length ∧ (∀ i, i < ns.length → 0 ≤ at0 ms i) ∧ ms.sum ≤ b ∧ Hn (h.take hp.length) n (T + 2 * b) ∧ Sm n hp (h.take hp.length) :=
    fun h ms T' B le a1 a2 a3 => B.fin hn (d := .tup (ms.map .int)) (Q := fun d' hh => ∃ ms : List Int, d' = .tup (ms.map .int) ∧ ms.length = ns.length ∧ (∀ i, i < ns.length → 0 ≤ at0 ms i) ∧ ms.sum ≤ b ∧ Hn hh n (T + 2 * b) ∧ Sm n hp hh) clo_tup fun h' H' S' => ⟨ms, rfl, a1, a2, a3, H'.mono le, S'⟩
  repeat fail
  refine ⟨fun _ => ?_, fun _ => ?_⟩
  · repeat fail
    refine ⟨rfl, (lev_sp (k := 1) (by omega) hne hl (by omega) hb2).mono ?_⟩
    rintro d h ⟨ms, rfl, a1, a2, a3, rfl⟩
    exact fin _ ms T (Bx.start H) (by omega) a1 a2 a3
  repeat fail
  refine ⟨fun _ => ?_, fun _ => ?_⟩
  · repeat fail
    refine ⟨rfl, (lev_sp (k := ns.length) (by omega) hne hl (by omega) hb2).mono ?_⟩
    rintro d h ⟨ms, rfl, a1, a2, a3, rfl⟩
    exact fin _ ms T (Bx.start H) (by omega) a1 a2 a3
  repeat fail
  refine ⟨fun _ => ?_, fun _ => ?_⟩
  · repeat fail
    refine ⟨rfl, (take_sp H (by omega) (by omega) (by omega)).mono ?_⟩
    rintro d h1 ⟨c0, rfl, c1, c2, H1, S1⟩
    obtain ⟨k, hk⟩ : ∃ k : Nat, 1 + c0 = (k : Int) := ⟨(1 + c0).toNat, by omega⟩
    repeat fail
    rw [hk]
    refine ⟨rfl, (lev_sp (k := k) (by omega) hne hl (by omega) hb2).mono ?_⟩
    rintro d h ⟨ms, rfl, a1, a2, a3, rfl⟩
    exact fin _ ms (T + 1) ((Bx.start H).sm hn S1 H1) (by omega) a1 a2 a3
  repeat fail
  refine ⟨rfl, (demand_sp hn H (by omega) (by omega) (by omega) (by omega) (by omega)).mono ?_⟩
  rintro d h1 ⟨ms, rfl, a1, a2, a3, H1, S1⟩
  exact fin _ ms (T + 2 * b) ((Bx.start H).sm hn S1 H1) (by omega) a1 a2 (by rw [← a1, sm_sum] at a3; exact a3)
end
theorem law_ok : LawOk 63 f_law := by
  refine lawA (E := 10) (N := 2) (by decide) fun s k n rest h hr hn2 H => ?_
  match rest, hr with
  | [x3, x4, x5, x6, x7, x8, x9, x10, x11, x12], _ =>
  have sl : sizeLine = 2 ^ 24 := rfl
  repeat fail
  refine ⟨rfl, (take_sp H (by omega) (by omega) (by omega)).mono ?_⟩
  rintro d h1 ⟨c0, rfl, c1, c2, H1, S1⟩
  repeat fail
  refine ⟨rfl, (take_sp H1 (by omega) (by omega) (by omega)).mono ?_⟩
  rintro d h2 ⟨b0, rfl, b1, b2, H2, S2⟩
  have S2 := S1.trans S2
  obtain ⟨c, hc⟩ : ∃ c : Nat, 1 + c0 = (c : Int) := ⟨(1 + c0).toNat, by omega⟩
  obtain ⟨b, hb⟩ : ∃ b, 1 + b0 = b := ⟨_, rfl⟩
  have hrow : ∀ i, i < c → row b i ≤ 600 := fun i hi => by
    have := (row_bd2 (B := 7) (C := 8) (b := b) (i := i) (by omega) (by omega) (by omega)).2
    omega
  repeat fail
  rw [hc, hb]
  refine ⟨rfl, (safe_ones_sp (R := 600) (by rw [S2.len]; exact hn2) H2 (by omega) (by omega) (by omega) (by omega) (by omega) hrow (by omega)).mono ?_⟩
  rintro d h3 ⟨ns, rfl, B3, g3, H3, S3⟩
  have S3 := S2.trans S3
  repeat fail
  refine ws_for ?_
  repeat fail
  refine ⟨⟨by decide, by decide⟩, ?_⟩
  refine ⟨fun j e h' => ∃ (ns : List Int) (e6 e7 e8 e9 e10 e11 e12 : Option D), e = [some s, some k, some (.loc n), some (.int (c : Int)), some (.int b), some (.tup (ns.map .int)), e6, e7, e8, e9, e10, e11, e12] ∧ ns.length = c ∧ gapI ns b = none ∧ Hn h' n (10000 + 20 * j) ∧ h'.length = h.length,
    ⟨ns, _, _, _, _, _, _, _, rfl, B3.1, g3, H3.mono (by omega), S3.len⟩, fun _ _ _ _ _ => trivial, ?_, ?_⟩
  · rintro j x e h' hx ⟨ns, e6, e7, e8, e9, e10, e11, e12, rfl, nl, gn, H', hl'⟩
    obtain ⟨hj, rfl⟩ := rng0N hx
    have hj : j < 40 := by simpa using hj
    have hne : ns ≠ [] := fun e => by rw [e] at nl; simp at nl; omega
    refine tg_n ?_
    repeat fail
    refine ⟨rfl, (wish_sp (by omega) H' (by omega) hne (by omega) (by omega) (by omega) (by omega)).mono ?_⟩
    rintro dd h5 ⟨ms, rfl, d1, d2, d3, H5, S5⟩
    obtain ⟨st, sf⟩ := safe_tick (by omega) gn d1 d2 d3 hne
    have es : srv b ns [ms] [] = ([(argm (subL ns ms) : Int)], tickB b ns ms) := by rw [srv, if_pos st, srv]; rfl
    have sll := subL_len (ns := ns) (ms := ms) d1.symm
    have hne2 : subL ns ms ≠ [] := fun e => by
      rw [e] at sll
      exact hne (List.length_eq_zero_iff.mp sll.symm)
    have am := (argm_ok hne2).2.1
    repeat fail
    refine ⟨rfl, (served_pu (ds := [ms]) (b := b) hne (by simp [d1]) (by omega) (by simp)).fs ?_⟩
    rw [es]
    repeat fail
    refine ⟨fun _ => ?_, fun z => by simp at z⟩
    repeat fail
    refine ⟨rfl, (after_pu (.inr rfl) (.inr rfl) d1.symm (by omega) (by omega)).fs ?_⟩
    refine g_neE (tickB b ns ms) (tickB b ns ms) rfl rfl (by decide) ?_
    rw [decide_eq_true rfl]
    repeat fail
    refine wp_compA (ns.zip ms) (fun a => .itm [.int a.1, .int a.2]) (fun a => .int (a.1 - a.2)) (wp_zip ?_)
    repeat fail
    refine ⟨_, _, _, _, rfl, rfl, rfl, zipE, ⟨trivial, trivial⟩, by simp; omega, fun a ha => ?_, ?_⟩
    · refine tg_tup2 (tg_n (tg_n ⟨rfl, ?_⟩))
      dsimp only [wipeE, List.set]
      repeat fail
    rw [show List.map (fun a : Int × Int => D.int (a.1 - a.2)) (ns.zip ms) = (subL ns ms).map .int by unfold subL; rw [List.map_map]; rfl]
    repeat fail
    refine ⟨rfl, (good_pu (by omega)).fs ?_⟩
    have gi : ((argm (subL ns ms) : Nat) : Int) ∈ (goodI (subL ns ms) b).map fun i : Nat => (i : Int) := by
      refine List.mem_map.mpr ⟨_, ?_, rfl⟩
      unfold goodI
      rw [List.mem_filter]
      refine ⟨List.mem_range.mpr am, ?_⟩
      unfold okG
      show (gapI (tickB b ns ms) b).isNone = true
      rw [sf]; rfl
    repeat fail
    rw [decide_eq_true gi]
    repeat fail
    refine ⟨rfl, (law_gap_sq (ns := tickB b ns ms) rfl (by rw [tickB_len d1.symm]; omega)).mono ?_⟩
    rintro dd h6 ⟨rfl, rfl⟩
    repeat fail
    rw [isNon_gapN, sf, Option.isNone_none]
    repeat fail
    refine ⟨rfl, (is_safe_sp (ns := tickB b ns ms) (.inr rfl) (by rw [tickB_len d1.symm]; omega)).mono ?_⟩
    rintro dd h7 ⟨rfl, rfl⟩
    rw [sf]
    repeat fail
    refine g_notB ?_
    repeat fail
    refine ⟨fun z => by simp at z, fun _ => ?_⟩
    repeat fail
    exact ⟨_, _, _, _, _, _, _, _, rfl, by rw [tickB_len d1.symm]; exact nl, sf, H5.mono (by omega), by rw [S5.len]; exact hl'⟩
  · rintro e h' ⟨ns, e6, e7, e8, e9, e10, e11, e12, rfl, nl, gn, H', hl'⟩
    repeat fail
    exact ⟨_, _, _, rfl, rfl⟩
end Gw
theorem PySem.Challenge.cw_creditfloor_k17_whole_safe_forever_holds : PySem.Challenge.rw_creditfloor_k17_whole_safe_forever.Holds :=
  Gw.law_end Gw.law_ok
